import PyProof.Rows.All
import Wide.All
import OpenK.AllK
import Wide.FinOn
import HandS.ForMost
import HandS.ForExc
import HandS.Codes
import HandS.Lambda
import HandS.EndOwn
import HandS.GenList
import HandS.DictComp
import HandS.OwnEq
import HandS.Defaults
import HandS.MakeKw
import HandS.MakeKwOnly
import HandS.IsInst
import HandS.ExcIs
import HandS.ExcField
import HandS.ExcInit
import HandS.ExcValue
import HandS.TupAny
import HandS.StrMore
import HandS.Conv
import HandS.ListItems
import HandS.CallLocal
import HandS.SortKw
import HandS.Style
import HandS.Flow
import KE.SortData
import KE.SortKeyHeap
import KE.SortLaws
import KE.KExcSuper
import KE.KSuper
import HandS.RaiseMore
import KE.KLam
import KE.KSortKey
import HandS.Nested
import KE.KSuperObj
import KE.KExcIs
import HandS.GenBody
import HandS.GenYield
import PyProof.GenComp
import PyProof.DictUpdate
import HandS.Star
import HandS.SetFor
import HandS.SetTxtIn
import KE.GoesMore
import PySem.Challenge.RW_blindrepair_k57_whole_origins_by_steps
section part_OrgA
set_option linter.all false
set_option autoImplicit false
namespace Org
abbrev T := List Nat
abbrev Mis := List (Nat × T)
abbrev Row := List Nat
abbrev Found := List (T × Row)
/-- keys once, images not empty -/
structure Good (m : Mis) : Prop where
  nd : (m.map (·.1)).Nodup
  ne : ∀ p ∈ m, p.2 ≠ []

/-! ### the sources of a text -/
def part (t : T) (rest : List (List T)) (p : Nat × T) : List T := if p.2.isPrefixOf t then (rest.getD (p.2.length - 1) []).map (p.1 :: ·) else []
def cell (m : Mis) (t : T) (rest : List (List T)) : List T := (m.flatMap (part t rest)).take 501
def tab (m : Mis) : T → List (List T)
  | [] => [[[]]]
  | c :: r => cell m (c :: r) (tab m r) :: tab m r
def srcs (m : Mis) (t : T) : List T := (tab m t).headD []
def img (m : Mis) (s : T) : T := s.flatMap fun c => (m.lookup c).getD []

theorem tab_len (m : Mis) (t : T) : (tab m t).length = t.length + 1 := by
  induction t with
  | nil => rfl
  | cons c r ih => simp [tab, ih]
theorem tab_drop (m : Mis) (t : T) (j : Nat) (h : j ≤ t.length) : (tab m t).drop j = tab m (t.drop j) := by
  induction t generalizing j with
  | nil => simp at h; subst h; rfl
  | cons c r ih =>
    cases j with
    | zero => rfl
    | succ j => simp [tab]; exact ih j (by simpa using h)
theorem cell_len (m : Mis) (t : T) (rest : List (List T)) : (cell m t rest).length ≤ 501 := by
  unfold cell; rw [List.length_take]; omega
theorem mem_cell {m : Mis} {t : T} {rest : List (List T)} {s : T} (h : s ∈ cell m t rest) : ∃ p ∈ m, p.2 <+: t ∧ ∃ u ∈ rest.getD (p.2.length - 1) [], s = p.1 :: u := by
  unfold cell at h
  have h := List.mem_of_mem_take h
  obtain ⟨p, hp, h⟩ := List.mem_flatMap.mp h
  unfold part at h
  split at h
  · rename_i hq
    obtain ⟨u, hu, e⟩ := List.mem_map.mp h
    exact ⟨p, hp, List.isPrefixOf_iff_prefix.mp hq, u, hu, e.symm⟩
  · cases h
theorem lookup_of_mem {m : Mis} (nd : (m.map (·.1)).Nodup) {p : Nat × T} (hp : p ∈ m) : m.lookup p.1 = some p.2 := by
  induction m with
  | nil => cases hp
  | cons q r ih =>
    obtain ⟨a, b⟩ := q
    simp only [List.map_cons, List.nodup_cons] at nd
    rcases List.mem_cons.mp hp with e | hp
    · subst e; simp [List.lookup]
    · have hne : p.1 ≠ a := fun e => nd.1 (e ▸ List.mem_map.mpr ⟨p, hp, rfl⟩)
      simp only [List.lookup]
      have : (p.1 == a) = false := by simpa using hne
      rw [this]; exact ih nd.2 hp
theorem getD_cons_succ' {α} (a : α) (l : List α) (j : Nat) (d : α) : (a :: l).getD (j + 1) d = l.getD j d := by simp
theorem tab_sound {m : Mis} (g : Good m) : ∀ (t : T) (j : Nat) (s : T), s ∈ (tab m t).getD j [] → img m s = t.drop j ∧ s.length ≤ (t.drop j).length ∧ ∀ c ∈ s, c ∈ m.map (·.1) := by
  intro t
  induction t with
  | nil =>
    intro j s h
    cases j with
    | zero => simp [tab] at h; subst h; simp [img]
    | succ j => simp [tab] at h
  | cons c r ih =>
    intro j s h
    cases j with
    | zero =>
      have h : s ∈ cell m (c :: r) (tab m r) := by simpa [tab] using h
      obtain ⟨p, hp, ⟨v, hv⟩, u, hu, rfl⟩ := mem_cell h
      obtain ⟨e1, e2, e3⟩ := ih _ _ hu
      have hpe := g.ne p hp
      obtain ⟨a, b, hab⟩ : ∃ a b, p.2 = a :: b := by
        cases h : p.2 with
        | nil => exact absurd h hpe
        | cons a b => exact ⟨a, b, rfl⟩
      have hl := lookup_of_mem g.nd hp
      rw [hab] at hv e1 e2 hl
      simp only [List.cons_append, List.cons.injEq] at hv
      obtain ⟨rfl, hv⟩ := hv
      simp only [List.length_cons, Nat.add_sub_cancel] at e1 e2
      have hd : r.drop b.length = v := by rw [← hv]; simp
      refine ⟨?_, ?_, ?_⟩
      · show (m.lookup p.1).getD [] ++ img m u = _
        rw [hl, e1, hd]
        simp [← hv]
      · rw [hd] at e2
        have : r.length = b.length + v.length := by rw [← hv]; simp
        simp only [List.length_cons, List.drop_zero]
        omega
      · intro x hx
        rcases List.mem_cons.mp hx with e | hx
        · rw [e]; exact List.mem_map.mpr ⟨p, hp, rfl⟩
        · exact e3 x hx
    | succ j =>
      have h : s ∈ (tab m r).getD j [] := by simpa [tab] using h
      simpa using ih j s h
theorem headD_getD {α} (l : List α) (d : α) : l.headD d = l.getD 0 d := by cases l <;> rfl
theorem srcs_sound {m : Mis} (g : Good m) {t s : T} (h : s ∈ srcs m t) : img m s = t ∧ s.length ≤ t.length ∧ ∀ c ∈ s, c ∈ m.map (·.1) := by
  unfold srcs at h
  rw [headD_getD] at h
  simpa using tab_sound g t 0 s h
theorem nodup_take {α} {l : List α} (h : l.Nodup) (n : Nat) : (l.take n).Nodup := h.sublist (List.take_sublist _ _)
theorem nodup_flatMap' {α β : Type} {l : List α} {f : α → List β} (h1 : ∀ a ∈ l, (f a).Nodup) (h2 : l.Pairwise fun a b => ∀ x ∈ f a, x ∉ f b) : (l.flatMap f).Nodup := by
  induction l with
  | nil => simp
  | cons a r ih =>
    rw [List.flatMap_cons, List.nodup_append]
    rw [List.pairwise_cons] at h2
    refine ⟨h1 a (by simp), ih (fun b hb => h1 b (List.mem_cons_of_mem _ hb)) h2.2, ?_⟩
    intro x hx y hy e
    subst e
    obtain ⟨b, hb, hy⟩ := List.mem_flatMap.mp hy
    exact h2.1 b hb x hx hy
theorem nodup_map' {α β : Type} {l : List α} {f : α → β} (hf : ∀ a b, f a = f b → a = b) (h : l.Nodup) : (l.map f).Nodup := by
  unfold List.Nodup at *
  rw [List.pairwise_map]
  exact h.imp fun hne e => hne (hf _ _ e)
theorem tab_nodup {m : Mis} (g : Good m) : ∀ (t : T) (j : Nat), ((tab m t).getD j []).Nodup := by
  intro t
  induction t with
  | nil =>
    intro j
    cases j with
    | zero => simp [tab]
    | succ j => simp [tab]
  | cons c r ih =>
    intro j
    cases j with
    | succ j => simpa [tab] using ih j
    | zero =>
      show (cell m (c :: r) (tab m r)).Nodup
      unfold cell
      refine nodup_take (nodup_flatMap' (fun p _ => ?_) ?_) _
      · unfold part
        split
        · exact nodup_map' (fun a b e => by injection e) (ih _)
        · simp
      · have h := g.nd
        unfold List.Nodup at h
        rw [List.pairwise_map] at h
        refine h.imp fun {a b} hne x hx hy => ?_
        unfold part at hx hy
        split at hx
        · split at hy
          · obtain ⟨_, _, e1⟩ := List.mem_map.mp hx
            obtain ⟨_, _, e2⟩ := List.mem_map.mp hy
            rw [← e1] at e2
            injection e2 with e3 _
            exact hne e3.symm
          · cases hy
        · cases hx
theorem srcs_nodup {m : Mis} (g : Good m) (t : T) : (srcs m t).Nodup := by
  unfold srcs
  rw [headD_getD]
  exact tab_nodup g t 0
theorem srcs_len (m : Mis) (t : T) : (srcs m t).length ≤ 501 := by
  cases t with
  | nil => simp [srcs, tab]
  | cons c r => exact cell_len _ _ _
/-- the parts of a cell, from the left -/
theorem tab_cons (m : Mis) (c : Nat) (r : T) : tab m (c :: r) = cell m (c :: r) (tab m r) :: tab m r := rfl
end Org
end part_OrgA
section part_OrgB
set_option linter.all false
set_option autoImplicit false
namespace Org
/-! ### texts in order, rows in order -/
def ltT (a b : T) : Prop := a.length < b.length ∨ (a.length = b.length ∧ a < b)
instance (a b : T) : Decidable (ltT a b) := by unfold ltT; exact inferInstance
theorem lt_tri (a b : List Nat) : a < b ∨ a = b ∨ b < a := by
  induction a generalizing b with
  | nil => cases b with
    | nil => exact .inr (.inl rfl)
    | cons x y => exact .inl (List.nil_lt_cons _ _)
  | cons c r ih => cases b with
    | nil => exact .inr (.inr (List.nil_lt_cons _ _))
    | cons x y =>
      rw [List.cons_lt_cons_iff, List.cons_lt_cons_iff]
      rcases Nat.lt_trichotomy c x with h | h | h
      · exact .inl (.inl h)
      · subst h
        rcases ih y with h | h | h
        · exact .inl (.inr ⟨rfl, h⟩)
        · exact .inr (.inl (by rw [h]))
        · exact .inr (.inr (.inr ⟨rfl, h⟩))
      · exact .inr (.inr (.inl h))
theorem lt_irr (a : List Nat) : ¬ a < a := List.lt_irrefl a
theorem lt_tr {a b c : List Nat} (h : a < b) (h' : b < c) : a < c := List.lt_trans h h'
theorem lt_as {a b : List Nat} (h : a < b) : ¬ b < a := fun h' => lt_irr _ (lt_tr h h')
theorem ltT_irr (a : T) : ¬ ltT a a := fun h => by
  rcases h with h | ⟨_, h⟩
  · omega
  · exact lt_irr _ h
theorem ltT_tr {a b c : T} (h : ltT a b) (h' : ltT b c) : ltT a c := by
  rcases h with h | ⟨e, h⟩ <;> rcases h' with h' | ⟨e', h'⟩
  · exact .inl (by omega)
  · exact .inl (by omega)
  · exact .inl (by omega)
  · exact .inr ⟨by omega, lt_tr h h'⟩
theorem ltT_tri (a b : T) : ltT a b ∨ a = b ∨ ltT b a := by
  unfold ltT
  rcases Nat.lt_trichotomy a.length b.length with h | h | h
  · exact .inl (.inl h)
  · rcases lt_tri a b with h' | h' | h'
    · exact .inl (.inr ⟨h, h'⟩)
    · exact .inr (.inl h')
    · exact .inr (.inr (.inr ⟨h.symm, h'⟩))
  · exact .inr (.inr (.inl h))
def leT (a b : T) : Bool := !decide (ltT b a)
def ord (l : List T) : List T := l.mergeSort leT
theorem ord_perm (l : List T) : (ord l).Perm l := List.mergeSort_perm l leT
theorem leT_tr (a b c : T) (h : leT a b = true) (h' : leT b c = true) : leT a c = true := by
  unfold leT at *
  simp only [Bool.not_eq_true', decide_eq_false_iff_not] at *
  intro q
  rcases ltT_tri a b with z | z | z
  · exact h' (ltT_tr q z)
  · subst z; exact h' q
  · exact h z
theorem leT_tot (a b : T) : (leT a b || leT b a) = true := by
  unfold leT
  by_cases h : ltT b a
  · have : ¬ ltT a b := fun z => ltT_irr _ (ltT_tr h z)
    simp [this]
  · simp [h]
theorem ord_sorted {l : List T} (nd : l.Nodup) : (ord l).Pairwise ltT := by
  have h := List.pairwise_mergeSort (le := leT) leT_tr leT_tot l
  have n2 : (ord l).Nodup := (ord_perm l).nodup_iff.mpr nd
  refine (h.and n2).imp fun {a b} ⟨z, ne⟩ => ?_
  have z' : ¬ ltT b a := by simpa [leT] using z
  rcases ltT_tri a b with q | q | q
  · exact q
  · exact absurd q ne
  · exact absurd q z'
/-- sorted any other way: the same -/
theorem ord_eq {l ys : List T} (p : ys.Perm l) (s : ys.Pairwise fun a b => leT a b = true) : ys = ord l := by
  refine List.Perm.eq_of_pairwise (le := fun a b => leT a b = true) (fun a b _ _ h h' => ?_) s (List.pairwise_mergeSort leT_tr leT_tot l) (p.trans (ord_perm l).symm)
  have z' : ¬ ltT b a := by simpa [leT] using h
  have z : ¬ ltT a b := by simpa [leT] using h'
  rcases ltT_tri a b with q | q | q
  · exact absurd q z
  · exact q
  · exact absurd q z'
theorem ord_nil {l : List T} : ord l = [] ↔ l = [] := by
  constructor
  · intro h
    have := (ord_perm l)
    rw [h] at this
    exact this.nil_eq.symm
  · rintro rfl; simp [ord]

/-! ### the program's way -/
def has (F : Found) (x : T) : Bool := (F.map (·.1)).contains x
theorem has_iff {F : Found} {x : T} : has F x = true ↔ ∃ r, (x, r) ∈ F := by
  unfold has
  rw [List.contains_iff_mem, List.mem_map]
  constructor
  · rintro ⟨⟨a, r⟩, h, rfl⟩; exact ⟨r, h⟩
  · rintro ⟨r, h⟩; exact ⟨_, h, rfl⟩
theorem has_append {F G : Found} {x : T} : has (F ++ G) x = (has F x || has G x) := by
  rw [Bool.eq_iff_iff, Bool.or_eq_true, has_iff, has_iff, has_iff]
  simp only [List.mem_append]
  constructor
  · rintro ⟨r, h | h⟩
    · exact .inl ⟨r, h⟩
    · exact .inr ⟨r, h⟩
  · rintro (⟨r, h⟩ | ⟨r, h⟩)
    · exact ⟨r, .inl h⟩
    · exact ⟨r, .inr h⟩
abbrev Groups := List (Row × List T)
abbrev Job := Row × Mis × List T
def freshOne (F : Found) (m : Mis) (n : T) : List T := (srcs m n).filter fun x => !has F x
def fresh (F : Found) (m : Mis) (ts : List T) : List T := ts.flatMap (freshOne F m)
def stepJob (S : Found × Groups) (j : Job) : Found × Groups :=
  (S.1 ++ (ord (fresh S.1 j.2.1 j.2.2)).map (fun x => (x, j.1)), if ord (fresh S.1 j.2.1 j.2.2) = [] then S.2 else S.2 ++ [(j.1, ord (fresh S.1 j.2.1 j.2.2))])
def num : Nat → List Mis → List (Nat × Mis)
  | _, [] => []
  | k, m :: r => (k, m) :: num (k + 1) r
def jobsOf (L : Groups) (p : Nat × Mis) : List Job := L.map fun g => (p.1 :: g.1, p.2, g.2)
def jobs (ms : List Mis) (L : Groups) : List Job := (num 0 ms).flatMap (jobsOf L)
def levelP (ms : List Mis) (S : Found × Groups) : Found × Groups := (jobs ms S.2).foldl stepJob (S.1, [])
def runP (ms : List Mis) : Nat → Found × Groups → Option Found
  | 0, S => if S.2 = [] then some S.1 else none
  | n + 1, S => if S.2 = [] then some S.1 else if (levelP ms S).1.length > 500 then none else runP ms n (levelP ms S)
theorem stepJob_len (S : Found × Groups) (j : Job) : (stepJob S j).1.length = S.1.length + (fresh S.1 j.2.1 j.2.2).length := by
  unfold stepJob
  rw [List.length_append, List.length_map, (ord_perm _).length_eq]
theorem foldJob_len (J : List Job) (S : Found × Groups) : S.1.length ≤ (J.foldl stepJob S).1.length := by
  induction J generalizing S with
  | nil => exact Nat.le_refl _
  | cons j r ih =>
    rw [List.foldl_cons]
    exact Nat.le_trans (by rw [stepJob_len]; omega) (ih _)
/-- part of a job counts at most as the whole level -/
theorem part_le (J K : List Job) (S : Found × Groups) (j : Job) (ts us : List T) (h : j.2.2 = ts ++ us) :
    (J.foldl stepJob S).1.length + (fresh (J.foldl stepJob S).1 j.2.1 ts).length ≤ ((J ++ j :: K).foldl stepJob S).1.length := by
  rw [List.foldl_append, List.foldl_cons]
  refine Nat.le_trans ?_ (foldJob_len K _)
  rw [stepJob_len, h]
  unfold fresh
  rw [List.flatMap_append, List.length_append]
  omega

/-! ### the law's way -/
def put (D : Found) (x : T) (r : Row) : Found := if has D x = true then D.map (fun p => if p.1 = x then (p.1, r) else p) else D ++ [(x, r)]
def updD (G : Found) (row : Row) (D : Found) (x : T) : Found :=
  if !has G x && (!has D x || decide (row < (D.lookup x).getD [])) then put D x row else D
def rowOf (G : Found) (n : T) (i : Nat) : Row := i :: (G.lookup n).getD []
def jobL (G : Found) (D : Found) (n : T) (p : Nat × Mis) : Found := (srcs p.2 n).foldl (updD G (rowOf G n p.1)) D
def nearL (ms : List Mis) (G : Found) (D : Found) (n : T) : Found := (num 0 ms).foldl (fun D p => jobL G D n p) D
def freshL (ms : List Mis) (G : Found) (Lv : List T) : Found := Lv.foldl (nearL ms G) []
def levelL (ms : List Mis) (S : Found × List T) : Found × List T := (S.1 ++ freshL ms S.1 S.2, (freshL ms S.1 S.2).map (·.1))
def runL (ms : List Mis) : Nat → Found × List T → Option Found
  | 0, S => some S.1
  | n + 1, S => if S.1.length + (freshL ms S.1 S.2).length > 500 then none else runL ms n (levelL ms S)
end Org
end part_OrgB
section part_OrgC
set_option linter.all false
set_option autoImplicit false
namespace Org
/-- the new entries: each candidate that is not there yet, with its least row -/
structure Mins (F : Found) (C : Row → T → Prop) (N : Found) : Prop where
  nd : (N.map (·.1)).Nodup
  iff : ∀ x r, (x, r) ∈ N ↔ has F x = false ∧ C r x ∧ ∀ r', C r' x → ¬ r' < r
  all : ∀ r x, C r x → has F x = false → has N x = true
theorem nodup_of_keys {N : Found} (h : (N.map (·.1)).Nodup) : N.Nodup := by
  unfold List.Nodup at *
  rw [List.pairwise_map] at h
  exact h.imp fun hne e => hne (by rw [e])
theorem Mins.perm {F G : Found} {C C' : Row → T → Prop} {N N' : Found} (a : Mins F C N) (b : Mins G C' N') (h : ∀ x, has F x = has G x) (hC : ∀ r x, C r x ↔ C' r x) : N.Perm N' := by
  rw [List.perm_ext_iff_of_nodup (nodup_of_keys a.nd) (nodup_of_keys b.nd)]
  rintro ⟨x, r⟩
  rw [a.iff, b.iff, h, hC]
  constructor
  · rintro ⟨h1, h2, h3⟩
    exact ⟨h1, h2, fun r' q => h3 r' ((hC _ _).mpr q)⟩
  · rintro ⟨h1, h2, h3⟩
    exact ⟨h1, h2, fun r' q => h3 r' ((hC _ _).mp q)⟩
theorem has_false {F : Found} {x : T} : has F x = false ↔ ∀ r, (x, r) ∉ F := by
  rw [Bool.eq_false_iff, Ne, has_iff]
  constructor
  · intro h r q; exact h ⟨r, q⟩
  · rintro h ⟨r, q⟩; exact h r q
theorem mem_freshOne {F : Found} {m : Mis} {n x : T} : x ∈ freshOne F m n ↔ has F x = false ∧ x ∈ srcs m n := by
  unfold freshOne
  rw [List.mem_filter]
  constructor
  · rintro ⟨h1, h2⟩; exact ⟨by simpa using h2, h1⟩
  · rintro ⟨h1, h2⟩; exact ⟨h2, by simp [h1]⟩
theorem mem_fresh {F : Found} {m : Mis} {ts : List T} {x : T} : x ∈ fresh F m ts ↔ has F x = false ∧ ∃ n ∈ ts, x ∈ srcs m n := by
  unfold fresh
  rw [List.mem_flatMap]
  constructor
  · rintro ⟨n, hn, h⟩
    obtain ⟨h1, h2⟩ := mem_freshOne.mp h
    exact ⟨h1, n, hn, h2⟩
  · rintro ⟨h1, n, hn, h2⟩
    exact ⟨n, hn, mem_freshOne.mpr ⟨h1, h2⟩⟩
theorem fresh_nodup {F : Found} {m : Mis} {ts : List T} (g : Good m) (h : ts.Nodup) : (fresh F m ts).Nodup := by
  unfold fresh
  refine nodup_flatMap' (fun n _ => (srcs_nodup g n).sublist List.filter_sublist) ?_
  refine h.imp fun {a b} hne x hx hy => hne ?_
  have h1 := (srcs_sound g (mem_freshOne.mp hx).2).1
  have h2 := (srcs_sound g (mem_freshOne.mp hy).2).1
  exact h1.symm.trans h2

/-! ### the program's level -/
def flat (L : Groups) : Found := L.flatMap fun g => g.2.map fun x => (x, g.1)
def candJ (J : List Job) (r : Row) (x : T) : Prop := ∃ j ∈ J, j.1 = r ∧ ∃ n ∈ j.2.2, x ∈ srcs j.2.1 n
structure PI (F : Found) (J : List Job) (S : Found × Groups) : Prop where
  eq : S.1 = F ++ flat S.2
  mins : Mins F (candJ J) (flat S.2)
  sub : ∀ g ∈ S.2, ∃ j ∈ J, j.1 = g.1
  asc : (S.2.map (·.1)).Pairwise (· < ·)
  ne : ∀ g ∈ S.2, g.2 ≠ []
  srt : ∀ g ∈ S.2, g.2.Pairwise ltT
theorem mem_flat {L : Groups} {x : T} {r : Row} : (x, r) ∈ flat L ↔ ∃ g ∈ L, g.1 = r ∧ x ∈ g.2 := by
  unfold flat
  rw [List.mem_flatMap]
  constructor
  · rintro ⟨g, hg, h⟩
    obtain ⟨y, hy, e⟩ := List.mem_map.mp h
    cases e
    exact ⟨g, hg, rfl, hy⟩
  · rintro ⟨g, hg, rfl, h⟩
    exact ⟨g, hg, List.mem_map.mpr ⟨x, h, rfl⟩⟩
theorem flat_append (L L' : Groups) : flat (L ++ L') = flat L ++ flat L' := by unfold flat; simp
theorem PI.nil (F : Found) : PI F [] (F, []) where
  eq := by simp [flat]
  mins := ⟨by simp [flat], fun x r => by simp [flat, candJ], fun r x h => by simp [candJ] at h⟩
  sub := fun g h => by cases h
  asc := by simp
  ne := fun g h => by cases h
  srt := fun g h => by cases h
theorem candJ_snoc {J : List Job} {j : Job} {r : Row} {x : T} : candJ (J ++ [j]) r x ↔ candJ J r x ∨ (j.1 = r ∧ ∃ n ∈ j.2.2, x ∈ srcs j.2.1 n) := by
  unfold candJ
  constructor
  · rintro ⟨k, hk, h⟩
    rcases List.mem_append.mp hk with hk | hk
    · exact .inl ⟨k, hk, h⟩
    · rw [List.mem_singleton.mp hk] at h
      exact .inr h
  · rintro (⟨k, hk, h⟩ | h)
    · exact ⟨k, List.mem_append_left _ hk, h⟩
    · exact ⟨j, by simp, h⟩
theorem flat_step (S : Found × Groups) (j : Job) : flat (stepJob S j).2 = flat S.2 ++ (ord (fresh S.1 j.2.1 j.2.2)).map fun x => (x, j.1) := by
  unfold stepJob
  split
  · rename_i h
    rw [h]; simp
  · rw [flat_append]
    simp [flat]
theorem PI.step {F : Found} {J : List Job} {S : Found × Groups} {j : Job} (p : PI F J S) (hr : ∀ k ∈ J, k.1 < j.1) (g : Good j.2.1) (hn : j.2.2.Nodup) : PI F (J ++ [j]) (stepJob S j) := by
  have hfr : ∀ x, x ∈ ord (fresh S.1 j.2.1 j.2.2) ↔ (has F x = false ∧ has (flat S.2) x = false) ∧ ∃ n ∈ j.2.2, x ∈ srcs j.2.1 n := fun x => by
    rw [(ord_perm _).mem_iff, mem_fresh, p.eq, has_append, Bool.or_eq_false_iff]
  have fnd : (ord (fresh S.1 j.2.1 j.2.2)).Nodup := (ord_perm _).nodup_iff.mpr (fresh_nodup g hn)
  have old : ∀ x r, (x, r) ∈ flat S.2 → r < j.1 := fun x r h => by
    obtain ⟨gg, hg, rfl, _⟩ := mem_flat.mp h
    obtain ⟨k, hk, e⟩ := p.sub gg hg
    rw [← e]; exact hr k hk
  refine ⟨?_, ⟨?_, fun x r => ?_, fun r x h hF => ?_⟩, fun gg hg => ?_, ?_, fun gg hg => ?_, fun gg hg => ?_⟩
  · rw [flat_step, ← List.append_assoc, ← p.eq]; rfl
  · rw [flat_step, List.map_append, List.map_map]
    rw [show ((fun p : T × Row => p.1) ∘ fun x => (x, j.1)) = id from rfl, List.map_id]
    rw [List.nodup_append]
    refine ⟨p.mins.nd, fnd, fun a ha b hb e => ?_⟩
    subst e
    have h1 := ((hfr a).mp hb).1.2
    obtain ⟨⟨y, r⟩, hy, rfl⟩ := List.mem_map.mp ha
    exact has_false.mp h1 r hy
  · rw [flat_step, List.mem_append]
    constructor
    · rintro (h | h)
      · obtain ⟨h1, h2, h3⟩ := (p.mins.iff x r).mp h
        refine ⟨h1, candJ_snoc.mpr (.inl h2), fun r' hc => ?_⟩
        rcases candJ_snoc.mp hc with hc | ⟨rfl, _⟩
        · exact h3 r' hc
        · exact lt_as (old x r h)
      · obtain ⟨y, hy, e⟩ := List.mem_map.mp h
        cases e
        obtain ⟨⟨h1, h2⟩, h3⟩ := (hfr x).mp hy
        refine ⟨h1, candJ_snoc.mpr (.inr ⟨rfl, h3⟩), fun r' hc => ?_⟩
        rcases candJ_snoc.mp hc with hc | ⟨rfl, _⟩
        · have := p.mins.all r' x hc h1
          rw [h2] at this; cases this
        · exact lt_irr _
    · rintro ⟨h1, h2, h3⟩
      rcases candJ_snoc.mp h2 with h2 | ⟨rfl, h2'⟩
      · exact .inl ((p.mins.iff x r).mpr ⟨h1, h2, fun r' hc => h3 r' (candJ_snoc.mpr (.inl hc))⟩)
      · refine .inr (List.mem_map.mpr ⟨x, (hfr x).mpr ⟨⟨h1, ?_⟩, h2'⟩, rfl⟩)
        rw [has_false]
        intro r0 hr0
        have hc := ((p.mins.iff x r0).mp hr0).2.1
        exact h3 r0 (candJ_snoc.mpr (.inl hc)) (old x r0 hr0)
  · rw [flat_step, has_append, Bool.or_eq_true]
    by_cases hs : has (flat S.2) x = true
    · exact .inl hs
    · have hs' : has (flat S.2) x = false := by simpa using hs
      rcases candJ_snoc.mp h with h | ⟨rfl, h'⟩
      · exact absurd (p.mins.all r x h hF) hs
      · exact .inr (has_iff.mpr ⟨j.1, List.mem_map.mpr ⟨x, (hfr x).mpr ⟨⟨hF, hs'⟩, h'⟩, rfl⟩⟩)
  · unfold stepJob at hg
    split at hg
    · obtain ⟨k, hk, e⟩ := p.sub gg hg
      exact ⟨k, List.mem_append_left _ hk, e⟩
    · rcases List.mem_append.mp hg with hg | hg
      · obtain ⟨k, hk, e⟩ := p.sub gg hg
        exact ⟨k, List.mem_append_left _ hk, e⟩
      · rw [List.mem_singleton.mp hg]
        exact ⟨j, by simp, rfl⟩
  · unfold stepJob
    split
    · exact p.asc
    · rw [List.map_append, List.pairwise_append]
      refine ⟨p.asc, by simp, fun a ha b hb => ?_⟩
      obtain ⟨gg, hg, rfl⟩ := List.mem_map.mp ha
      obtain ⟨k, hk, e⟩ := p.sub gg hg
      have hb : b = j.1 := by simpa using hb
      rw [hb, ← e]
      exact hr k hk
  · unfold stepJob at hg
    split at hg
    · exact p.ne gg hg
    · rename_i hne
      rcases List.mem_append.mp hg with hg | hg
      · exact p.ne gg hg
      · rw [List.mem_singleton.mp hg]; exact hne
  · unfold stepJob at hg
    split at hg
    · exact p.srt gg hg
    · rename_i hne
      rcases List.mem_append.mp hg with hg | hg
      · exact p.srt gg hg
      · rw [List.mem_singleton.mp hg]
        exact ord_sorted (fresh_nodup g hn)
/-- over all jobs -/
theorem PI.all {F : Found} : ∀ (J J0 : List Job) (S : Found × Groups), PI F J0 S → ((J0 ++ J).map (·.1)).Pairwise (· < ·) → (∀ j ∈ J, Good j.2.1 ∧ j.2.2.Nodup) → PI F (J0 ++ J) (J.foldl stepJob S) := by
  intro J
  induction J with
  | nil => intro J0 S p _ _; simpa using p
  | cons j r ih =>
    intro J0 S p hr hg
    rw [List.foldl_cons, show J0 ++ j :: r = (J0 ++ [j]) ++ r by simp]
    refine ih _ _ (p.step (fun k hk => ?_) (hg j (by simp)).1 (hg j (by simp)).2) (by simpa using hr) fun k hk => hg k (List.mem_cons_of_mem _ hk)
    rw [List.map_append, List.pairwise_append] at hr
    exact hr.2.2 _ (List.mem_map.mpr ⟨k, hk, rfl⟩) _ (by simp)

/-! ### the law's level -/
theorem lookup_iff {D : Found} (nd : (D.map (·.1)).Nodup) {x : T} {r : Row} : D.lookup x = some r ↔ (x, r) ∈ D := by
  induction D with
  | nil => simp
  | cons p q ih =>
    obtain ⟨a, b⟩ := p
    simp only [List.map_cons, List.nodup_cons] at nd
    simp only [List.lookup]
    by_cases e : x = a
    · subst e
      simp only [beq_self_eq_true, List.mem_cons, Prod.mk.injEq, true_and]
      constructor
      · intro h; exact .inl (Option.some.inj h).symm
      · rintro (h | h)
        · rw [h]
        · exact absurd (List.mem_map.mpr ⟨_, h, rfl⟩) nd.1
    · have : (x == a) = false := by simpa using e
      rw [this]
      simp only [List.mem_cons, Prod.mk.injEq, e, false_and, false_or]
      exact ih nd.2
theorem put_keys {D : Found} {x : T} {r : Row} : (put D x r).map (·.1) = if has D x = true then D.map (·.1) else D.map (·.1) ++ [x] := by
  unfold put
  split
  · rw [List.map_map]
    apply List.map_congr_left
    intro p _
    simp only [Function.comp]
    split <;> rfl
  · simp
theorem put_nd {D : Found} {x : T} {r : Row} (nd : (D.map (·.1)).Nodup) : ((put D x r).map (·.1)).Nodup := by
  rw [put_keys]
  split
  · exact nd
  · rename_i h
    rw [List.nodup_append]
    refine ⟨nd, by simp, fun a ha b hb e => h ?_⟩
    have hb : b = x := by simpa using hb
    subst e
    subst hb
    obtain ⟨⟨y, s⟩, hy, rfl⟩ := List.mem_map.mp ha
    exact has_iff.mpr ⟨s, hy⟩
theorem mem_put {D : Found} {x y : T} {r s : Row} : (y, s) ∈ put D x r ↔ (y = x ∧ s = r) ∨ (y ≠ x ∧ (y, s) ∈ D) := by
  unfold put
  split
  · rename_i hd
    rw [List.mem_map]
    constructor
    · rintro ⟨⟨a, b⟩, hp, e⟩
      by_cases ha : a = x
      · simp only [ha, if_true, Prod.mk.injEq] at e
        exact .inl ⟨e.1.symm, e.2.symm⟩
      · simp only [ha, if_false, Prod.mk.injEq] at e
        obtain ⟨rfl, rfl⟩ := e
        exact .inr ⟨ha, hp⟩
    · rintro (⟨rfl, rfl⟩ | ⟨h1, h2⟩)
      · obtain ⟨b, hb⟩ := has_iff.mp hd
        exact ⟨(y, b), hb, by simp⟩
      · exact ⟨(y, s), h2, by simp [h1]⟩
  · rename_i hd
    rw [List.mem_append]
    constructor
    · rintro (h | h)
      · refine .inr ⟨?_, h⟩
        rintro rfl
        exact hd (has_iff.mpr ⟨s, h⟩)
      · have h : (y, s) = (x, r) := by simpa using h
        cases h
        exact .inl ⟨rfl, rfl⟩
    · rintro (⟨rfl, rfl⟩ | ⟨h1, h2⟩)
      · exact .inr (by simp)
      · exact .inl h2
theorem Mins.nilL (G : Found) : Mins G (fun r x => (r, x) ∈ ([] : List (Row × T))) [] :=
  ⟨by simp, fun x r => by simp, fun r x h => by simp at h⟩
theorem Mins.step {G : Found} {P : List (Row × T)} {D : Found} {row : Row} {x : T} (m : Mins G (fun r x => (r, x) ∈ P) D) : Mins G (fun r y => (r, y) ∈ P ++ [(row, x)]) (updD G row D x) := by
  have mp : ∀ r y, (r, y) ∈ P ++ [(row, x)] ↔ (r, y) ∈ P ∨ (r = row ∧ y = x) := fun r y => by simp
  unfold updD
  by_cases hG : has G x = true
  · rw [hG]
    simp only [Bool.not_true, Bool.false_and, Bool.false_eq_true, if_false]
    refine ⟨m.nd, fun y r => ?_, fun r y h hy => ?_⟩
    · rw [m.iff]
      constructor
      · rintro ⟨h1, h2, h3⟩
        refine ⟨h1, (mp _ _).mpr (.inl h2), fun r' h => ?_⟩
        rcases (mp _ _).mp h with h | ⟨_, rfl⟩
        · exact h3 r' h
        · rw [hG] at h1; cases h1
      · rintro ⟨h1, h2, h3⟩
        rcases (mp _ _).mp h2 with h2 | ⟨_, rfl⟩
        · exact ⟨h1, h2, fun r' h => h3 r' ((mp _ _).mpr (.inl h))⟩
        · rw [hG] at h1; cases h1
    · rcases (mp _ _).mp h with h | ⟨_, rfl⟩
      · exact m.all r y h hy
      · rw [hG] at hy; cases hy
  · have hG : has G x = false := by simpa using hG
    rw [hG]
    simp only [Bool.not_false, Bool.true_and]
    by_cases hc : (!has D x || decide (row < (D.lookup x).getD [])) = true
    · rw [if_pos hc]
      -- the row is less than what stands there
      have hlt : ∀ r, (x, r) ∈ D → row < r := fun r hr => by
        have e := (lookup_iff m.nd).mpr hr
        have hd : has D x = true := has_iff.mpr ⟨r, hr⟩
        rw [hd, e] at hc
        simpa using hc
      refine ⟨put_nd m.nd, fun y r => ?_, fun r y h hy => ?_⟩
      · rw [mem_put]
        constructor
        · rintro (⟨rfl, rfl⟩ | ⟨h1, h2⟩)
          · refine ⟨hG, (mp _ _).mpr (.inr ⟨rfl, rfl⟩), fun r' h => ?_⟩
            rcases (mp _ _).mp h with h | ⟨rfl, _⟩
            · obtain ⟨r0, h0⟩ := has_iff.mp (m.all r' y h hG)
              have l0 := hlt r0 h0
              have h3 := ((m.iff y r0).mp h0).2.2 r' h
              intro q
              exact h3 (lt_tr q l0)
            · exact lt_irr _
          · obtain ⟨g1, g2, g3⟩ := (m.iff y r).mp h2
            refine ⟨g1, (mp _ _).mpr (.inl g2), fun r' h => ?_⟩
            rcases (mp _ _).mp h with h | ⟨_, rfl⟩
            · exact g3 r' h
            · exact absurd rfl h1
        · rintro ⟨h1, h2, h3⟩
          by_cases e : y = x
          · subst e
            refine .inl ⟨rfl, ?_⟩
            rcases (mp _ _).mp h2 with h2 | ⟨rfl, _⟩
            · have hn := h3 row ((mp _ _).mpr (.inr ⟨rfl, rfl⟩))
              have hm : (y, r) ∈ D := (m.iff y r).mpr ⟨h1, h2, fun r' h => h3 r' ((mp _ _).mpr (.inl h))⟩
              exact absurd (hlt r hm) hn
            · rfl
          · refine .inr ⟨e, (m.iff y r).mpr ⟨h1, ?_, fun r' h => h3 r' ((mp _ _).mpr (.inl h))⟩⟩
            rcases (mp _ _).mp h2 with h2 | ⟨_, rfl⟩
            · exact h2
            · exact absurd rfl e
      · by_cases e : y = x
        · subst e
          exact has_iff.mpr ⟨row, mem_put.mpr (.inl ⟨rfl, rfl⟩)⟩
        · rcases (mp _ _).mp h with h | ⟨_, rfl⟩
          · obtain ⟨r0, h0⟩ := has_iff.mp (m.all r y h hy)
            exact has_iff.mpr ⟨r0, mem_put.mpr (.inr ⟨e, h0⟩)⟩
          · exact absurd rfl e
    · rw [if_neg hc]
      simp only [Bool.or_eq_true, Bool.not_eq_true', not_or, Bool.not_eq_false, decide_eq_true_eq] at hc
      obtain ⟨hd, hl⟩ := hc
      obtain ⟨r0, h0⟩ := has_iff.mp hd
      rw [(lookup_iff m.nd).mpr h0] at hl
      have hl : ¬ row < r0 := hl
      have i0 := (m.iff x r0).mp h0
      refine ⟨m.nd, fun y r => ?_, fun r y h hy => ?_⟩
      · rw [m.iff]
        constructor
        · rintro ⟨h1, h2, h3⟩
          refine ⟨h1, (mp _ _).mpr (.inl h2), fun r' h => ?_⟩
          rcases (mp _ _).mp h with h | ⟨rfl, rfl⟩
          · exact h3 r' h
          · -- r is r0
            have hm : (y, r) ∈ D := (m.iff y r).mpr ⟨h1, h2, h3⟩
            have e : r = r0 := by
              have a := (lookup_iff m.nd).mpr hm
              have b := (lookup_iff m.nd).mpr h0
              rw [a] at b; exact Option.some.inj b
            rw [e]; exact hl
        · rintro ⟨h1, h2, h3⟩
          refine ⟨h1, ?_, fun r' h => h3 r' ((mp _ _).mpr (.inl h))⟩
          rcases (mp _ _).mp h2 with h2 | ⟨rfl, rfl⟩
          · exact h2
          · rcases lt_tri r r0 with q | q | q
            · exact absurd q hl
            · rw [q]; exact i0.2.1
            · exact absurd q (h3 r0 ((mp _ _).mpr (.inl i0.2.1)))
      · rcases (mp _ _).mp h with h | ⟨_, rfl⟩
        · exact m.all r y h hy
        · exact hd
theorem Mins.fold {G : Found} : ∀ (P P0 : List (Row × T)) (D : Found), Mins G (fun r x => (r, x) ∈ P0) D → Mins G (fun r x => (r, x) ∈ P0 ++ P) (P.foldl (fun D q => updD G q.1 D q.2) D) := by
  intro P
  induction P with
  | nil => intro P0 D m; simpa using m
  | cons q r ih =>
    intro P0 D m
    rw [List.foldl_cons, show P0 ++ q :: r = (P0 ++ [q]) ++ r by simp]
    exact ih _ _ m.step
def pairsL (ms : List Mis) (G : Found) (Lv : List T) : List (Row × T) := Lv.flatMap fun n => (num 0 ms).flatMap fun p => (srcs p.2 n).map fun x => (rowOf G n p.1, x)
theorem freshL_eq (ms : List Mis) (G : Found) (Lv : List T) : freshL ms G Lv = (pairsL ms G Lv).foldl (fun D q => updD G q.1 D q.2) [] := by
  unfold freshL pairsL nearL jobL
  rw [List.foldl_flatMap]
  congr
  funext D n
  rw [List.foldl_flatMap]
  congr
  funext D p
  rw [List.foldl_map]
theorem freshL_mins (ms : List Mis) (G : Found) (Lv : List T) : Mins G (fun r x => (r, x) ∈ pairsL ms G Lv) (freshL ms G Lv) := by
  rw [freshL_eq]
  simpa using Mins.fold (pairsL ms G Lv) [] [] (Mins.nilL G)
end Org
end part_OrgC
section part_OrgD
set_option linter.all false
set_option autoImplicit false
namespace Org
theorem num_asc (ms : List Mis) : ∀ k, (num k ms).Pairwise fun a b => a.1 < b.1 := by
  induction ms with
  | nil => intro k; simp [num]
  | cons m r ih =>
    intro k
    rw [num, List.pairwise_cons]
    refine ⟨fun p hp => ?_, ih _⟩
    have : ∀ (l : List Mis) (j : Nat), ∀ p ∈ num j l, j ≤ p.1 := by
      intro l
      induction l with
      | nil => intro j p hp; simp [num] at hp
      | cons a b ih2 =>
        intro j p hp
        rw [num] at hp
        rcases List.mem_cons.mp hp with e | hp
        · rw [e]; exact Nat.le_refl _
        · exact Nat.le_trans (Nat.le_succ _) (ih2 _ p hp)
    exact this r (k + 1) p hp
theorem num_mem (ms : List Mis) : ∀ k, ∀ p ∈ num k ms, p.1 < k + ms.length ∧ p.2 ∈ ms := by
  induction ms with
  | nil => intro k p hp; simp [num] at hp
  | cons m r ih =>
    intro k p hp
    rw [num] at hp
    rcases List.mem_cons.mp hp with e | hp
    · rw [e]; simp
    · obtain ⟨h1, h2⟩ := ih (k + 1) p hp
      exact ⟨by simp only [List.length_cons]; omega, List.mem_cons_of_mem _ h2⟩
theorem jobs_asc (ms : List Mis) (L : Groups) (h : (L.map (·.1)).Pairwise (· < ·)) : ((jobs ms L).map (·.1)).Pairwise (· < ·) := by
  unfold jobs
  generalize hk : (0 : Nat) = k
  clear hk
  have hp := num_asc ms k
  revert hp
  generalize num k ms = l
  intro hp
  induction l with
  | nil => simp
  | cons p r ih =>
    rw [List.pairwise_cons] at hp
    rw [List.flatMap_cons, List.map_append, List.pairwise_append]
    refine ⟨?_, ih hp.2, ?_⟩
    · unfold jobsOf
      rw [List.map_map]
      rw [List.pairwise_map] at h ⊢
      refine h.imp fun {a b} hab => ?_
      show p.1 :: a.1 < p.1 :: b.1
      rw [List.cons_lt_cons_iff]
      exact .inr ⟨rfl, hab⟩
    · intro a ha b hb
      obtain ⟨j, hj, rfl⟩ := List.mem_map.mp ha
      obtain ⟨j', hj', rfl⟩ := List.mem_map.mp hb
      obtain ⟨q, hq, hj'⟩ := List.mem_flatMap.mp hj'
      obtain ⟨g, hg, rfl⟩ := List.mem_map.mp hj
      obtain ⟨g', hg', rfl⟩ := List.mem_map.mp hj'
      show p.1 :: g.1 < q.1 :: g'.1
      rw [List.cons_lt_cons_iff]
      exact .inl (hp.1 q hq)
/-- the order of the origins -/
def keyLt (p q : T × Row) : Prop := p.2.length < q.2.length ∨ (p.2.length = q.2.length ∧ (p.2 < q.2 ∨ (p.2 = q.2 ∧ ltT p.1 q.1)))
structure Okk (ms : List Mis) (al : Nat → Prop) (b : Nat) (p : T × Row) : Prop where
  len : p.1.length ≤ b
  al : ∀ c ∈ p.1, al c
  row : ∀ i ∈ p.2, i < ms.length
structure Rel (ms : List Mis) (al : Nat → Prop) (b k : Nat) (S : Found × Groups) (Z : Found × List T) : Prop where
  perm : S.1.Perm Z.1
  nd : (S.1.map (·.1)).Nodup
  lv : ∀ x r, (x, r) ∈ flat S.2 ↔ x ∈ Z.2 ∧ (x, r) ∈ Z.1
  sub : ∀ x ∈ Z.2, has Z.1 x = true
  asc : (S.2.map (·.1)).Pairwise (· < ·)
  ne : ∀ g ∈ S.2, g.2 ≠ []
  gnd : ∀ g ∈ S.2, g.2.Nodup
  rowlen : ∀ g ∈ S.2, g.1.length = k
  flen : ∀ p ∈ S.1, p.2.length ≤ k
  flen2 : ∀ p ∈ S.1, p.2.length < S.1.length
  klen : S.2 ≠ [] → k < S.1.length
  srt : S.1.Pairwise keyLt
  ok : ∀ p ∈ S.1, Okk ms al b p
theorem has_perm {F G : Found} (h : F.Perm G) (x : T) : has F x = has G x := by
  rw [Bool.eq_iff_iff, has_iff, has_iff]
  constructor
  · rintro ⟨r, q⟩; exact ⟨r, h.mem_iff.mp q⟩
  · rintro ⟨r, q⟩; exact ⟨r, h.mem_iff.mpr q⟩
theorem flat_srt : ∀ (L : Groups) (k : Nat), (L.map (·.1)).Pairwise (· < ·) → (∀ g ∈ L, g.2.Pairwise ltT) → (∀ g ∈ L, g.1.length = k) → (flat L).Pairwise keyLt := by
  intro L
  induction L with
  | nil => intro k _ _ _; simp [flat]
  | cons g r ih =>
    intro k h1 h2 h3
    rw [List.map_cons, List.pairwise_cons] at h1
    have : flat (g :: r) = g.2.map (fun x => (x, g.1)) ++ flat r := by simp [flat]
    rw [this, List.pairwise_append]
    refine ⟨?_, ih k h1.2 (fun a ha => h2 a (List.mem_cons_of_mem _ ha)) fun a ha => h3 a (List.mem_cons_of_mem _ ha), ?_⟩
    · rw [List.pairwise_map]
      exact (h2 g (by simp)).imp fun {a b} hab => .inr ⟨rfl, .inr ⟨rfl, hab⟩⟩
    · intro a ha b hb
      obtain ⟨x, hx, rfl⟩ := List.mem_map.mp ha
      obtain ⟨y, s⟩ := b
      obtain ⟨g', hg', rfl, _⟩ := mem_flat.mp hb
      refine .inr ⟨?_, .inl (h1.1 _ (List.mem_map.mpr ⟨g', hg', rfl⟩))⟩
      show g.1.length = g'.1.length
      rw [h3 g (by simp), h3 g' (List.mem_cons_of_mem _ hg')]
theorem Mins.nodup_append {F : Found} {C : Row → T → Prop} {N : Found} (m : Mins F C N) (h : (F.map (·.1)).Nodup) : ((F ++ N).map (·.1)).Nodup := by
  rw [List.map_append, List.nodup_append]
  refine ⟨h, m.nd, fun a ha b hb e => ?_⟩
  subst e
  obtain ⟨⟨x, r⟩, hx, rfl⟩ := List.mem_map.mp ha
  obtain ⟨⟨y, s⟩, hy, e⟩ := List.mem_map.mp hb
  have e : y = x := e
  subst e
  exact has_false.mp ((m.iff y s).mp hy).1 r hx
theorem Rel.step {ms : List Mis} {al : Nat → Prop} {b k : Nat} {S : Found × Groups} {Z : Found × List T} (R : Rel ms al b k S Z) (hg : ∀ m ∈ ms, Good m) (hal : ∀ m ∈ ms, ∀ c ∈ m.map (·.1), al c) :
    Rel ms al b (k + 1) (levelP ms S) (levelL ms Z) ∧ (levelP ms S).1.length = Z.1.length + (freshL ms Z.1 Z.2).length ∧ S.1.length ≤ (levelP ms S).1.length ∧ ((levelP ms S).2 ≠ [] → S.1.length < (levelP ms S).1.length) := by
  have hjobs : ∀ j ∈ jobs ms S.2, Good j.2.1 ∧ j.2.2.Nodup := fun j hj => by
    unfold jobs at hj
    obtain ⟨p, hp, hj⟩ := List.mem_flatMap.mp hj
    obtain ⟨g, hg', rfl⟩ := List.mem_map.mp hj
    exact ⟨hg _ (num_mem ms 0 p hp).2, R.gnd g hg'⟩
  have P : PI S.1 (jobs ms S.2) (levelP ms S) := by
    have := PI.all (jobs ms S.2) [] (S.1, []) (PI.nil S.1) (by simpa using jobs_asc ms S.2 R.asc) hjobs
    rw [List.nil_append] at this
    exact this
  have M := freshL_mins ms Z.1 Z.2
  have hc : ∀ r x, candJ (jobs ms S.2) r x ↔ (r, x) ∈ pairsL ms Z.1 Z.2 := fun r x => by
    constructor
    · rintro ⟨j, hj, rfl, n, hn, hx⟩
      unfold jobs at hj
      obtain ⟨p, hp, hj⟩ := List.mem_flatMap.mp hj
      obtain ⟨g, hg', rfl⟩ := List.mem_map.mp hj
      obtain ⟨h1, h2⟩ := (R.lv n g.1).mp (mem_flat.mpr ⟨g, hg', rfl, hn⟩)
      unfold pairsL
      refine List.mem_flatMap.mpr ⟨n, h1, List.mem_flatMap.mpr ⟨p, hp, List.mem_map.mpr ⟨x, hx, ?_⟩⟩⟩
      unfold rowOf
      rw [(lookup_iff ((R.perm.map (·.1)).nodup_iff.mp R.nd)).mpr h2]
      rfl
    · intro h
      unfold pairsL at h
      obtain ⟨n, hn, h⟩ := List.mem_flatMap.mp h
      obtain ⟨p, hp, h⟩ := List.mem_flatMap.mp h
      obtain ⟨y, hy, e⟩ := List.mem_map.mp h
      obtain ⟨r0, h0⟩ := has_iff.mp (R.sub n hn)
      unfold rowOf at e
      rw [(lookup_iff ((R.perm.map (·.1)).nodup_iff.mp R.nd)).mpr h0] at e
      cases e
      obtain ⟨g, hg', e, hx⟩ := mem_flat.mp ((R.lv n r0).mpr ⟨hn, h0⟩)
      refine ⟨(p.1 :: g.1, p.2, g.2), ?_, by rw [e]; rfl, n, hx, hy⟩
      unfold jobs
      exact List.mem_flatMap.mpr ⟨p, hp, List.mem_map.mpr ⟨g, hg', rfl⟩⟩
  have hND : (flat (levelP ms S).2).Perm (freshL ms Z.1 Z.2) := P.mins.perm M (fun x => has_perm R.perm x) hc
  have hlen : (levelP ms S).1.length = S.1.length + (flat (levelP ms S).2).length := by rw [P.eq, List.length_append]
  have nrow : ∀ x r, (x, r) ∈ flat (levelP ms S).2 → ∃ p ∈ num 0 ms, ∃ g ∈ S.2, r = p.1 :: g.1 ∧ ∃ n ∈ g.2, x ∈ srcs p.2 n := fun x r h => by
    obtain ⟨j, hj, e, n, hn, hx⟩ := ((P.mins.iff x r).mp h).2.1
    unfold jobs at hj
    obtain ⟨p, hp, hj⟩ := List.mem_flatMap.mp hj
    obtain ⟨g, hg', rfl⟩ := List.mem_map.mp hj
    exact ⟨p, hp, g, hg', e.symm, n, hn, hx⟩
  have grow : (levelP ms S).2 ≠ [] → 0 < (flat (levelP ms S).2).length := fun h => by
    obtain ⟨g, hg'⟩ := List.exists_mem_of_ne_nil _ h
    obtain ⟨x, hx⟩ := List.exists_mem_of_ne_nil _ (P.ne g hg')
    exact List.length_pos_of_mem (mem_flat.mpr ⟨g, hg', rfl, hx⟩)
  have rl : ∀ g ∈ (levelP ms S).2, g.1.length = k + 1 := fun g hg' => by
    obtain ⟨x, hx⟩ := List.exists_mem_of_ne_nil _ (P.ne g hg')
    obtain ⟨p, hp, g0, hg0, e, _⟩ := nrow x g.1 (mem_flat.mpr ⟨g, hg', rfl, hx⟩)
    rw [e, List.length_cons, R.rowlen g0 hg0]
  have glt : ∀ p ∈ flat (levelP ms S).2, p.2.length = k + 1 ∧ k < S.1.length := fun p hp => by
    obtain ⟨x, r⟩ := p
    obtain ⟨q, hq, g0, hg0, e, _⟩ := nrow x r hp
    refine ⟨by show r.length = _; rw [e, List.length_cons, R.rowlen g0 hg0], R.klen ?_⟩
    intro z
    rw [z] at hg0
    cases hg0
  refine ⟨⟨?_, ?_, fun x r => ?_, fun x hx => ?_, P.asc, P.ne, fun g hg' => ?_, rl, fun p hp => ?_, fun p hp => ?_, fun h => ?_, ?_, fun p hp => ?_⟩, ?_, by omega, fun h => by have := grow h; omega⟩
  · rw [P.eq]
    exact R.perm.append hND
  · rw [P.eq]
    exact P.mins.nodup_append R.nd
  · have nd2 : ((Z.1 ++ freshL ms Z.1 Z.2).map (·.1)).Nodup := M.nodup_append ((R.perm.map (·.1)).nodup_iff.mp R.nd)
    rw [hND.mem_iff]
    show _ ↔ x ∈ (freshL ms Z.1 Z.2).map (·.1) ∧ (x, r) ∈ Z.1 ++ freshL ms Z.1 Z.2
    constructor
    · intro h
      exact ⟨List.mem_map.mpr ⟨_, h, rfl⟩, List.mem_append_right _ h⟩
    · rintro ⟨h1, h2⟩
      obtain ⟨⟨y, s⟩, hy, e⟩ := List.mem_map.mp h1
      have e : y = x := e
      subst e
      rcases List.mem_append.mp h2 with h2 | h2
      · exact absurd h2 (has_false.mp ((M.iff y s).mp hy).1 r)
      · exact h2
  · show has (Z.1 ++ freshL ms Z.1 Z.2) x = true
    have hx : x ∈ (freshL ms Z.1 Z.2).map (·.1) := hx
    obtain ⟨⟨y, s⟩, hy, e⟩ := List.mem_map.mp hx
    have e : y = x := e
    subst e
    exact has_iff.mpr ⟨s, List.mem_append_right _ hy⟩
  · exact (P.srt g hg').imp fun {a b} h e => by subst e; exact ltT_irr _ h
  · rw [P.eq] at hp
    rcases List.mem_append.mp hp with hp | hp
    · exact Nat.le_succ_of_le (R.flen p hp)
    · exact Nat.le_of_eq (glt p hp).1
  · rw [hlen]
    rw [P.eq] at hp
    rcases List.mem_append.mp hp with hp | hp
    · have := R.flen2 p hp; omega
    · have := glt p hp
      have := List.length_pos_of_mem hp
      omega
  · have h1 := grow h
    obtain ⟨p, hp⟩ := List.exists_mem_of_length_pos h1
    have := glt p hp
    omega
  · rw [P.eq, List.pairwise_append]
    refine ⟨R.srt, flat_srt _ (k + 1) P.asc P.srt rl, fun a ha c hc' => .inl ?_⟩
    have h1 := R.flen a ha
    have h2 := (glt c hc').1
    omega
  · rw [P.eq] at hp
    rcases List.mem_append.mp hp with hp | hp
    · exact R.ok p hp
    · obtain ⟨x, r⟩ := p
      obtain ⟨q, hq, g0, hg0, e, n, hn, hx⟩ := nrow x r hp
      have hgq := hg _ (num_mem ms 0 q hq).2
      obtain ⟨s1, s2, s3⟩ := srcs_sound hgq hx
      obtain ⟨_, h2⟩ := (R.lv n g0.1).mp (mem_flat.mpr ⟨g0, hg0, rfl, hn⟩)
      have ok0 := R.ok (n, g0.1) (R.perm.mem_iff.mpr h2)
      refine ⟨Nat.le_trans s2 ok0.len, fun c hc' => hal _ (num_mem ms 0 q hq).2 c (s3 c hc'), fun i hi => ?_⟩
      have hi : i ∈ r := hi
      rw [e] at hi
      rcases List.mem_cons.mp hi with e' | hi
      · rw [e']
        have := (num_mem ms 0 q hq).1
        omega
      · exact ok0.row i hi
  · rw [hlen, R.perm.length_eq, hND.length_eq]
/-- when nothing is left -/
theorem runL_done (ms : List Mis) : ∀ (n : Nat) (G : Found), G.length ≤ 500 → runL ms n (G, []) = some G := by
  intro n
  induction n with
  | zero => intro G _; rfl
  | succ n ih =>
    intro G h
    unfold runL
    have e : freshL ms G [] = [] := rfl
    rw [if_neg (by rw [show (G, ([] : List T)).1 = G from rfl, show (G, ([] : List T)).2 = [] from rfl, e]; simpa using h)]
    have : levelL ms (G, []) = (G, []) := by unfold levelL; rw [show freshL ms (G, ([] : List T)).1 (G, ([] : List T)).2 = [] from rfl]; simp
    rw [this]
    exact ih G h
/-- the ends of both ways -/
structure Ends (ms : List Mis) (al : Nat → Prop) (b : Nat) (F G : Found) : Prop where
  perm : F.Perm G
  nd : (F.map (·.1)).Nodup
  srt : F.Pairwise keyLt
  ok : ∀ p ∈ F, Okk ms al b p
  few : F.length ≤ 500
  row : ∀ p ∈ F, p.2.length < F.length
theorem run_rel {ms : List Mis} {al : Nat → Prop} {b : Nat} (hg : ∀ m ∈ ms, Good m) (hal : ∀ m ∈ ms, ∀ c ∈ m.map (·.1), al c) : ∀ (n fuel k : Nat) (S : Found × Groups) (Z : Found × List T), Rel ms al b k S Z → (S.2 ≠ [] → 501 ≤ S.1.length + fuel) → S.1.length ≤ 500 → fuel ≤ n →
    (runP ms fuel S = none ∧ runL ms n Z = none) ∨ ∃ F G, runP ms fuel S = some F ∧ runL ms n Z = some G ∧ Ends ms al b F G := by
  intro n
  induction n with
  | zero =>
    intro fuel k S Z R h1 h2 h3
    have hf : fuel = 0 := by omega
    subst hf
    by_cases h : S.2 = []
    · exact .inr ⟨S.1, Z.1, by simp [runP, h], rfl, R.perm, R.nd, R.srt, R.ok, h2, R.flen2⟩
    · have := h1 h; omega
  | succ n ih =>
    intro fuel k S Z R h1 h2 h3
    by_cases h : S.2 = []
    · have hz : Z.2 = [] := by
        cases hz : Z.2 with
        | nil => rfl
        | cons x r =>
          have hx : x ∈ Z.2 := by rw [hz]; simp
          obtain ⟨s, hs⟩ := has_iff.mp (R.sub x hx)
          have := (R.lv x s).mpr ⟨hx, hs⟩
          rw [h] at this
          simp [flat] at this
      refine .inr ⟨S.1, Z.1, ?_, ?_, R.perm, R.nd, R.srt, R.ok, h2, R.flen2⟩
      · cases fuel <;> simp [runP, h]
      · obtain ⟨Z1, Z2⟩ := Z
        have hz : Z2 = [] := hz
        subst hz
        exact runL_done ms _ Z1 (by rw [← R.perm.length_eq]; exact h2)
    · cases fuel with
      | zero => have := h1 h; omega
      | succ fuel =>
        obtain ⟨R', e1, e2, e3⟩ := R.step hg hal
        unfold runP runL
        rw [if_neg h]
        by_cases hm : (levelP ms S).1.length > 500
        · rw [if_pos hm, if_pos (by rw [← e1]; exact hm)]
          exact .inl ⟨rfl, rfl⟩
        · rw [if_neg hm, if_neg (by rw [← e1]; exact hm)]
          refine ih fuel (k + 1) _ _ R' (fun h' => ?_) (by omega) (by omega)
          have := e3 h'
          have := h1 h
          omega
/-- the start -/
theorem Rel.init {ms : List Mis} {al : Nat → Prop} {t : T} (ht : ∀ c ∈ t, al c) : Rel ms al t.length 0 ([(t, [])], [([], [t])]) ([(t, [])], [t]) where
  perm := List.Perm.refl _
  nd := by simp
  lv := fun x r => by
    simp [flat]
  sub := fun x hx => by
    have : x = t := by simpa using hx
    subst this
    exact has_iff.mpr ⟨[], by simp⟩
  asc := by simp
  ne := fun g hg => by simp at hg; rw [hg]; simp
  gnd := fun g hg => by simp at hg; rw [hg]; simp
  rowlen := fun g hg => by simp at hg; rw [hg]; rfl
  flen := fun p hp => by simp at hp; rw [hp]; simp
  flen2 := fun p hp => by simp at hp; rw [hp]; simp
  klen := fun _ => by simp
  srt := by simp
  ok := fun p hp => by
    simp at hp
    rw [hp]
    exact ⟨Nat.le_refl _, ht, fun i hi => by simp at hi⟩
def origP (ms : List Mis) (t : T) : Option Found := runP ms 500 ([(t, [])], [([], [t])])
def origL (ms : List Mis) (t : T) : Option Found := runL ms 600 ([(t, [])], [t])
theorem orig_both {ms : List Mis} {al : Nat → Prop} {t : T} (hg : ∀ m ∈ ms, Good m) (hal : ∀ m ∈ ms, ∀ c ∈ m.map (·.1), al c) (ht : ∀ c ∈ t, al c) :
    (origP ms t = none ∧ origL ms t = none) ∨ ∃ F G, origP ms t = some F ∧ origL ms t = some G ∧ Ends ms al t.length F G :=
  run_rel hg hal 600 500 0 _ _ (Rel.init ht) (fun _ => by simp) (by simp) (by omega)

/-! ### the law's keys -/
def dig (n : Nat) : List Nat := [48 + n / 1000, 48 + n / 100 % 10, 48 + n / 10 % 10, 48 + n % 10]
def encA (p : T × Row) : List Nat := dig (1000 + p.2.length) ++ p.2.map (48 + ·)
def encB (p : T × Row) : List Nat := dig (1000 + p.1.length) ++ p.1
def enc (p : T × Row) : List Nat := encA p ++ 32 :: encB p
theorem app_lt : ∀ {a b : List Nat} (c d : List Nat), a.length = b.length → a < b → a ++ c < b ++ d := by
  intro a
  induction a with
  | nil => intro b c d hl h; cases b with
    | nil => exact absurd h (lt_irr _)
    | cons x y => simp at hl
  | cons x r ih =>
    intro b c d hl h
    cases b with
    | nil => simp at hl
    | cons y s =>
      rw [List.cons_append, List.cons_append, List.cons_lt_cons_iff]
      rw [List.cons_lt_cons_iff] at h
      rcases h with h | ⟨e, h⟩
      · exact .inl h
      · exact .inr ⟨e, ih c d (by simpa using hl) h⟩
theorem pre_lt {a : List Nat} {c d : List Nat} (h : c < d) : a ++ c < a ++ d := by
  induction a with
  | nil => exact h
  | cons x r ih => rw [List.cons_append, List.cons_append, List.cons_lt_cons_iff]; exact .inr ⟨rfl, ih⟩
theorem dig_lt {n m : Nat} (h : n < m) (hm : m < 10000) : dig n < dig m := by
  unfold dig
  rw [List.cons_lt_cons_iff, List.cons_lt_cons_iff, List.cons_lt_cons_iff, List.cons_lt_cons_iff]
  have : ¬ ([] : List Nat) < [] := lt_irr _
  omega
theorem map_lt : ∀ {a b : List Nat}, a < b → a.map (48 + ·) < b.map (48 + ·) := by
  intro a
  induction a with
  | nil => intro b h; cases b with
    | nil => exact absurd h (lt_irr _)
    | cons x y => exact List.nil_lt_cons _ _
  | cons x r ih =>
    intro b h
    cases b with
    | nil => exact absurd h (List.not_lt_nil _)
    | cons y s =>
      rw [List.map_cons, List.map_cons, List.cons_lt_cons_iff]
      rw [List.cons_lt_cons_iff] at h
      rcases h with h | ⟨e, h⟩
      · exact .inl (by omega)
      · exact .inr ⟨by rw [e], ih h⟩
theorem enc_lt {p q : T × Row} (h : keyLt p q) (hp : p.1.length ≤ 8000) (hq : q.1.length ≤ 8000) (hp2 : p.2.length ≤ 8000) (hq2 : q.2.length ≤ 8000) : enc p < enc q := by
  unfold enc encA encB
  rw [List.append_assoc, List.append_assoc]
  rcases h with h | ⟨e, h⟩
  · exact app_lt _ _ rfl (dig_lt (by omega) (by omega))
  · rw [e]
    refine pre_lt ?_
    rcases h with h | ⟨e2, h⟩
    · exact app_lt _ _ (by simpa using e) (map_lt h)
    · rw [e2]
      refine pre_lt ?_
      rw [List.cons_lt_cons_iff]
      refine .inr ⟨rfl, ?_⟩
      rcases h with h | ⟨e3, h⟩
      · exact app_lt _ _ rfl (dig_lt (by omega) (by omega))
      · rw [e3]
        exact pre_lt h
/-- what the law sorts is what the program tells -/
theorem sorted_is {ms : List Mis} {al : Nat → Prop} {b : Nat} {F G : Found} (E : Ends ms al b F G) (hb : b ≤ 8000) {ys : List (List Nat)} (hp : ys.Perm (G.map enc)) (hs : ys.Pairwise fun a b => ¬ b < a) : ys = F.map enc := by
  refine List.Perm.eq_of_pairwise (le := fun a b => ¬ b < a) (fun a b _ _ h h' => ?_) hs ?_ (hp.trans (E.perm.symm.map enc))
  · rcases lt_tri a b with q | q | q
    · exact absurd q h'
    · exact q
    · exact absurd q h
  · rw [List.pairwise_map]
    refine E.srt.imp_of_mem fun {p q} hp' hq' h => lt_as (enc_lt h ?_ ?_ ?_ ?_)
    · exact Nat.le_trans (E.ok p hp').len hb
    · exact Nat.le_trans (E.ok q hq').len hb
    · have := E.row p hp'; have := E.few; omega
    · have := E.row q hq'; have := E.few; omega
end Org
end part_OrgD
section part_K57A
set_option Elab.async false
set_option maxRecDepth 100000
namespace K57
open PySem L2
def top (i : Nat) : Stmt := PySem.Challenge.pw_blindrepair_k57_whole_origins_by_steps.main.body.getD i (.Pass ⟨0, 0, 0, 0⟩)
abbrev sIsLetter : Stmt := top 5
abbrev sIsText : Stmt := top 6
abbrev sIsImage : Stmt := top 24
abbrev sNeedImages : Stmt := top 25
abbrev sKept : Stmt := top 26
abbrev sNeedFew : Stmt := top 27
abbrev sInOrderM : Stmt := top 28
abbrev sLettersIn : Stmt := top 30
abbrev sMis : Stmt := inClass (top 35) 0
abbrev sNeedMis : Stmt := top 42
abbrev sNeedText : Stmt := top 43
abbrev sOriI : Stmt := inClass (top 46) 0
abbrev sOriE : Stmt := inClass (top 46) 1
abbrev sAhead : Stmt := top 47
abbrev sInOrder : Stmt := top 48
abbrev sOriginsOf : Stmt := top 50
abbrev sOrigins : Stmt := top 51
abbrev sPen : Stmt := top 53
abbrev sDraw : Stmt := top 54
abbrev sPick : Stmt := top 55
abbrev sWord : Stmt := top 56
abbrev sImages : Stmt := top 57
abbrev sImage : Stmt := top 58
abbrev sSources : Stmt := top 59
abbrev sLOrigins : Stmt := top 60
abbrev sGarbled : Stmt := top 61
abbrev sHeard : Stmt := top 62
abbrev sLaw : Stmt := top 63
end K57
end part_K57A
section part_K57L
set_option Elab.async false
set_option maxRecDepth 100000
set_option maxHeartbeats 4000000
/-! loops over anything with n items -/
namespace K57
open PySem L2
theorem for_n {J : It} {n : Nat} {g : TG} {tb : TS} {D : Ends} {σ : L2.St} {H : Hp} (Pv : Nat → L2.St → Hp → Prop) (h0 : Pv 0 σ H) (go : ∀ i σ H, i < n → Pv i σ H → J.go i H) (stop : ∀ σ H, Pv n σ H → J.stop n H)
    (hs : ∀ i σ H, i < n → Pv i σ H → ∀ x H', J.yld i H x H' → g x σ H' fun σ2 H2 => tb { D with nx := Pv (i + 1), ct := Pv (i + 1), bk := D.nx } σ2 H2) (hd : ∀ σ H, Pv n σ H → D.nx σ H) :
    ∃ W : Nat → Nat → L2.St → Hp → Prop, (∃ m, W 0 m σ H) ∧ ∀ i m σ H, W i m σ H → (J.stop i H ∧ D.nx σ H) ∨
      (J.go i H ∧ ∃ N : L2.St → Hp → Prop, (∀ σ' H', N σ' H' → ∃ m', m' < m ∧ W (i + 1) m' σ' H') ∧ ∀ x H', J.yld i H x H' → g x σ H' fun σ2 H2 => tb { D with nx := N, ct := N, bk := D.nx } σ2 H2) := by
  refine ⟨fun i m σ H => (m = n - i ∧ i ≤ n) ∧ Pv i σ H, ⟨n, ⟨rfl, Nat.zero_le _⟩, h0⟩, fun i m σ H hw => ?_⟩
  obtain ⟨⟨e, hi⟩, p⟩ := hw
  rcases Nat.lt_or_ge i n with hlt | hge
  · exact .inr ⟨go i σ H hlt p, Pv (i + 1), fun σ' H' p' => ⟨n - (i + 1), by omega, ⟨rfl, hlt⟩, p'⟩, fun x H' y => hs i σ H hlt p x H' y⟩
  · have e2 : i = n := Nat.le_antisymm hi hge
    rw [e2] at p ⊢
    exact .inl ⟨stop σ H p, hd σ H p⟩
theorem lc_n {J : It} {n : Nat} {g : TG} {tt : TT} {te : TE} {vs : List Nat} {σ : L2.St} {H1 : Hp} {D : Addr} {Qd : Hp → Prop} (Pv : Nat → Hp → Prop) (h0 : Pv 0 (upd H1 D (.lst []))) (go : ∀ i H, i < n → Pv i H → J.go i H) (stop : ∀ H, Pv n H → J.stop n H)
    (hs : ∀ i H, i < n → Pv i H → ∀ x H', J.yld i H x H' → g x (wipe σ vs) H' fun σ2 H2 => wipe σ2 vs = wipe σ vs ∧ tt σ2 H2 fun b H3 =>
      if b = true then te σ2 H3 fun y H4 => ∃ acc, H4 D = some (.lst acc) ∧ acc.length < sizeLine ∧ Pv (i + 1) (upd H4 D (.lst (acc ++ [y]))) else Pv (i + 1) H3) (hd : ∀ H, Pv n H → Qd H) :
    ∃ W : Nat → Nat → Hp → Prop, (∃ m, W 0 m (upd H1 D (.lst []))) ∧ ∀ i m H, W i m H → (J.stop i H ∧ Qd H) ∨
      (J.go i H ∧ ∃ Nx : Hp → Prop, (∀ H', Nx H' → ∃ m', m' < m ∧ W (i + 1) m' H') ∧ ∀ x H', J.yld i H x H' → g x (wipe σ vs) H' fun σ2 H2 => wipe σ2 vs = wipe σ vs ∧ tt σ2 H2 fun b H3 =>
        if b = true then te σ2 H3 fun y H4 => ∃ acc, H4 D = some (.lst acc) ∧ acc.length < sizeLine ∧ Nx (upd H4 D (.lst (acc ++ [y]))) else Nx H3) := by
  refine ⟨fun i m H => (m = n - i ∧ i ≤ n) ∧ Pv i H, ⟨n, ⟨rfl, Nat.zero_le _⟩, h0⟩, fun i m H hw => ?_⟩
  obtain ⟨⟨e, hi⟩, p⟩ := hw
  rcases Nat.lt_or_ge i n with hlt | hge
  · exact .inr ⟨go i H hlt p, Pv (i + 1), fun H' p' => ⟨n - (i + 1), by omega, ⟨rfl, hlt⟩, p'⟩, fun x H' y => hs i H hlt p x H' y⟩
  · have e2 : i = n := Nat.le_antisymm hi hge
    rw [e2] at p ⊢
    exact .inl ⟨stop H p, hd H p⟩
theorem dc_n {J : It} {n : Nat} {g : TG} {tt : TT} {tk tv : TE} {vs : List Nat} {σ : L2.St} {H1 : Hp} {D : Addr} {Qd : Hp → Prop} (Pv : Nat → Hp → Prop) (h0 : Pv 0 (upd H1 D (.dK []))) (go : ∀ i H, i < n → Pv i H → J.go i H) (stop : ∀ H, Pv n H → J.stop n H)
    (hs : ∀ i H, i < n → Pv i H → ∀ x H', J.yld i H x H' → g x (wipe σ vs) H' fun σ2 H2 => wipe σ2 vs = wipe σ vs ∧ tt σ2 H2 fun b H3 =>
      if b = true then tk σ2 H3 fun y H4 => tv σ2 H4 fun z H5 => ∃ kvs k, y = kV k ∧ H5 D = some (.dK kvs) ∧ kvs.length < sizeLine ∧ Pv (i + 1) (upd H5 D (.dK (putK kvs k z))) else Pv (i + 1) H3) (hd : ∀ H, Pv n H → Qd H) :
    ∃ W : Nat → Nat → Hp → Prop, (∃ m, W 0 m (upd H1 D (.dK []))) ∧ ∀ i m H, W i m H → (J.stop i H ∧ Qd H) ∨
      (J.go i H ∧ ∃ Nx : Hp → Prop, (∀ H', Nx H' → ∃ m', m' < m ∧ W (i + 1) m' H') ∧ ∀ x H', J.yld i H x H' → g x (wipe σ vs) H' fun σ2 H2 => wipe σ2 vs = wipe σ vs ∧ tt σ2 H2 fun b H3 =>
        if b = true then tk σ2 H3 fun y H4 => tv σ2 H4 fun z H5 => ∃ kvs k, y = kV k ∧ H5 D = some (.dK kvs) ∧ kvs.length < sizeLine ∧ Nx (upd H5 D (.dK (putK kvs k z))) else Nx H3) := by
  refine ⟨fun i m H => (m = n - i ∧ i ≤ n) ∧ Pv i H, ⟨n, ⟨rfl, Nat.zero_le _⟩, h0⟩, fun i m H hw => ?_⟩
  obtain ⟨⟨e, hi⟩, p⟩ := hw
  rcases Nat.lt_or_ge i n with hlt | hge
  · exact .inr ⟨go i H hlt p, Pv (i + 1), fun H' p' => ⟨n - (i + 1), by omega, ⟨rfl, hlt⟩, p'⟩, fun x H' y => hs i H hlt p x H' y⟩
  · have e2 : i = n := Nat.le_antisymm hi hge
    rw [e2] at p ⊢
    exact .inl ⟨stop H p, hd H p⟩
end K57
end part_K57L
section part_K57B
set_option Elab.async false
set_option linter.all false
set_option maxRecDepth 100000
set_option maxHeartbeats 4000000
namespace K57
open PySem L2
/-- what the top has written: constants, and that the built-ins are still themselves -/
structure Txt (K : PySem.W.Frag) (mg : Str → Option Value) : Prop where
  isi : mg "isinstance" = none
  len : mg "len" = none
  str : mg "str" = none
  int : mg "int" = none
  abs : mg "abs" = none
  range : mg "range" = none
  enum : mg "enumerate" = none
  list : mg "list" = none
  tuple : mg "tuple" = none
  sorted : mg "sorted" = none
  set : mg "set" = none
  dict : mg "dict" = none
  letters : ∃ u, mg "LETTERS" = some u ∧ RelV (.str "abcdefghijklmnopqrstuvwxyz") u
  signs : ∃ u, mg "MOST_SIGNS" = some u ∧ RelV (.int 2000) u
  image : ∃ u, mg "MOST_IMAGE" = some u ∧ RelV (.int 4) u
  few : ∃ u, mg "MOST_LETTERS" = some u ∧ RelV (.int 12) u
  mist : ∃ u, mg "MOST_MISREADINGS" = some u ∧ RelV (.int 4) u
  texts : ∃ u, mg "MOST_TEXTS" = some u ∧ RelV (.int 500) u
/-- a small letter -/
def Low (c : Nat) : Prop := 97 ≤ c ∧ c ≤ 122
theorem low_in {c : Nat} (h : Low c) : c ∈ (Str.ofString "abcdefghijklmnopqrstuvwxyz").cps.toList := by
  have all : ∀ k, k < 26 → (97 + k) ∈ (Str.ofString "abcdefghijklmnopqrstuvwxyz").cps.toList := by decide +kernel
  have e := all (c - 97) (by have := h.1; have := h.2; omega)
  have : 97 + (c - 97) = c := by have := h.1; omega
  rwa [this] at e
section
variable {P : Program} {w : World} {K : PySem.W.Frag} {mg : Str → Option Value} {base : Heap}
/-! ### is_letter -/
def spIsLetter : Sp := fun vs H Q _ => ∃ c : Nat, vs = [.str (SX.S [c])] ∧ Low c ∧ Q (.bl true) H
theorem scIsLetter : FnScope ["value"] ["value"] (C8.fnScope sIsLetter) := C8.fnScope_by (by decide +kernel)
theorem cal_is_letter {f : Addr} {fd : FuncData} (F : C8.Def K mg "is_letter" sIsLetter f fd) (df : fd.defaults = .none) (T : Txt K mg) : C8.Cal P w K mg base 1 "is_letter" spIsLetter [] := by
  refine C8.cal0 F (F.fn.binds df (ps := ["value"]) fun _ _ _ _ _ _ us hl => match us, hl with | [_], _ => rfl) .nil scIsLetter (fun vs H Q E h => ?_) (fun cdv A outer s H vs Q E hr h => ?_)
  · obtain ⟨c, rfl, _⟩ := h
    rfl
  · obtain ⟨c, rfl, hc, k⟩ := h
    refine ⟨_, pss_one (ps_ret (pe_and (pe_callB call_isi (by rfl) T.isi (by decide +kernel) (pa_cons (pv 0) (pa_cons (pe_bltn (v := .ty "str") (by rfl) T.str (by decide +kernel) rfl) pa_nil)))
      (pe_and (pe_cmpR op_eq (pe_callB call_len (by rfl) T.len PySem.boot_len (pa_cons (pv 0) pa_nil)) pe_int (nomark _))
        (pe_one (pe_cmpR op_in_sign (pv 0) (C8.pe_gc (by rfl) T.letters) (by rfl)))))), ?_⟩
    refine ⟨_, rfl, _, _, _, _, true, rfl, .ty "str", .base (.str _), kit_ty (by decide +kernel), _, rfl, iteT ?_⟩
    refine ⟨_, rfl, _, 1, rfl, ⟨(by show 1 ≤ sizeLine; rw [sizeLine_eq]; decide), rfl⟩, rfl, _, rfl, iteT ?_⟩
    refine ⟨_, rfl, c, _, rfl, rfl, ?_⟩
    have e : decide (c ∈ (Str.ofString "abcdefghijklmnopqrstuvwxyz").cps.toList) = true := decide_eq_true (low_in hc)
    exact Eq.mpr (congrArg (fun b => Q (.bl b) H) e) k
/-! ### is_text -/
def spIsText : Sp := fun vs H Q _ => ∃ t : List Nat, vs = [.str (SX.S t)] ∧ t.length ≤ 2000 ∧ (∀ c ∈ t, Low c) ∧ Q (.bl true) H
theorem scIsText : FnScope ["value", "letter"] ["value"] (C8.fnScope sIsText) := C8.fnScope_by (by decide +kernel)
theorem S_get (t : List Nat) (i : Nat) : (SX.S t).cps[i]? = t[i]? := by simp
theorem S_size (t : List Nat) : (SX.S t).cps.size = t.length := by simp
theorem le_line {n m : Nat} (h : n ≤ m) (hm : m ≤ 16000000 := by decide) : n ≤ sizeLine := by rw [sizeLine_eq]; omega
theorem lt_line {n m : Nat} (h : n ≤ m) (hm : m ≤ 16000000 := by decide) : n < sizeLine := by rw [sizeLine_eq]; omega
theorem cal_is_text {f : Addr} {fd : FuncData} (F : C8.Def K mg "is_text" sIsText f fd) (df : fd.defaults = .none) (T : Txt K mg) : C8.Cal P w K mg base 1 "is_text" spIsText [] := by
  refine C8.cal0 F (F.fn.binds df (ps := ["value"]) fun _ _ _ _ _ _ us hl => match us, hl with | [_], _ => rfl) .nil scIsText (fun vs H Q E h => ?_) (fun cdv A outer s H vs Q E hr h => ?_)
  · obtain ⟨c, rfl, _⟩ := h
    rfl
  · obtain ⟨t, rfl, hl, hc, k⟩ := h
    refine ⟨_, pss_cons (ps_if (PW.pt (pw_or (pt_not (pt_val (pe_callB call_isi (by rfl) T.isi (by decide +kernel) (pa_cons (pv 0) (pa_cons (pe_bltn (v := .ty "str") (by rfl) T.str (by decide +kernel) rfl) pa_nil)))))
        (pw_or1 (pt_cmpR op_gt (pe_callB call_len (by rfl) T.len PySem.boot_len (pa_cons (pv 0) pa_nil)) (C8.pe_gc (by rfl) T.signs) (nomark _))))) (pss_one (ps_ret pe_bl)) pss_nil)
      (pss_cons (ps_for PassesOwn.never rfl (pi_str (pv 0)) (pg_name (i := 1) scIsText.nd rfl (Or.inl rfl))
        (pss_one (ps_if (pt_cmpR op_notIn_sign (pv 1) (C8.pe_gc (by rfl) T.letters) (by rfl)) (pss_one (ps_ret pe_bl)) pss_nil)))
      (pss_one (ps_ret pe_bl))), ?_⟩
    refine ⟨_, rfl, _, _, _, _, true, rfl, .ty "str", .base (.str _), kit_ty (by decide +kernel), _, rfl, iteF ?_⟩
    refine ⟨_, rfl, _, _, rfl, ⟨by rw [SX.S_len]; exact le_line hl, rfl⟩, _, _, rfl, rfl, _, rfl, ?_⟩
    rw [SX.S_len]
    refine ite2 (fun z => absurd (of_decide_eq_true z) (by omega)) (fun _ => ?_)
    refine ⟨_, rfl, _, rfl, for_n (n := t.length) (fun _ σ H' => ∃ v, σ = [some (.str (SX.S t)), v] ∧ H' = H) ⟨_, rfl, rfl⟩ (fun i σ H' hi _ => by show i < _; rw [S_size]; exact hi) (fun σ H' _ => by show _ ≤ t.length; rw [S_size]; exact Nat.le_refl _) ?_ ?_⟩
    · rintro i σ H' hi ⟨v, rfl, rfl⟩ x H2 ⟨rfl, c, hx, rfl⟩
      rw [S_get] at hx
      refine ⟨_, rfl, c, _, rfl, rfl, _, rfl, ?_⟩
      have e : decide (c ∈ (Str.ofString "abcdefghijklmnopqrstuvwxyz").cps.toList) = true := decide_eq_true (low_in (hc c (List.mem_of_getElem? hx)))
      refine ite2 (fun z => ?_) (fun _ => ⟨_, rfl, rfl⟩)
      rw [show decide (c ∈ ("abcdefghijklmnopqrstuvwxyz" : Str).cps.toList) = true from e] at z
      cases z
    · rintro σ H' ⟨v, rfl, rfl⟩
      exact k
/-! ### is_image -/
def spIsImage : Sp := fun vs H Q _ => ∃ t : List Nat, vs = [.str (SX.S t)] ∧ 1 ≤ t.length ∧ t.length ≤ 4 ∧ (∀ c ∈ t, Low c) ∧ Q (.bl true) H
theorem scIsImage : FnScope ["value"] ["value"] (C8.fnScope sIsImage) := C8.fnScope_by (by decide +kernel)
theorem cal_is_image {f : Addr} {fd : FuncData} (F : C8.Def K mg "is_image" sIsImage f fd) (df : fd.defaults = .none) (T : Txt K mg) (c1 : C8.Cal P w K mg base 1 "is_text" spIsText []) : C8.Cal P w K mg base 2 "is_image" spIsImage [] := by
  refine C8.cal0 F (F.fn.binds df (ps := ["value"]) fun _ _ _ _ _ _ us hl => match us, hl with | [_], _ => rfl) .nil scIsImage (fun vs H Q E h => ?_) (fun cdv A outer s H vs Q E hr h => ?_)
  · obtain ⟨c, rfl, _⟩ := h
    rfl
  · obtain ⟨t, rfl, h1, h4, hc, k⟩ := h
    refine ⟨_, pss_one (ps_ret (pe_and (C8.pe_c c1 hr (by decide) (by rfl) (pa_cons (pv 0) pa_nil)) (pe_one (pe_chain op_le op_le pe_int (pe_callB call_len (by rfl) T.len PySem.boot_len (pa_cons (pv 0) pa_nil)) (C8.pe_gc (by rfl) T.image))))), ?_⟩
    refine ⟨_, rfl, t, rfl, by omega, hc, _, rfl, iteT ?_⟩
    refine ⟨_, rfl, _, _, rfl, ⟨by rw [SX.S_len]; exact le_line h4, rfl⟩, _, _, rfl, rfl, _, rfl, ?_⟩
    rw [SX.S_len]
    have e1 : decide ((1 : Int) ≤ (t.length : Int)) = true := decide_eq_true (by omega)
    have e2 : decide ((t.length : Int) ≤ 4) = true := decide_eq_true (by omega)
    rw [e1]
    refine iteT ⟨_, _, rfl, rfl, ?_⟩
    show Q (.bl (decide ((t.length : Int) ≤ 4))) H
    rw [e2]
    exact k
/-! ### need_text, need_few -/
def spNeedText : Sp := fun vs H Q _ => ∃ t : List Nat, vs = [.str (SX.S t)] ∧ t.length ≤ 2000 ∧ (∀ c ∈ t, Low c) ∧ Q .non H
theorem scNeedText : FnScope ["value"] ["value"] (C8.fnScope sNeedText) := C8.fnScope_by (by decide +kernel)
theorem cal_need_text {f : Addr} {fd : FuncData} (F : C8.Def K mg "need_text" sNeedText f fd) (df : fd.defaults = .none) (T : Txt K mg) (c1 : C8.Cal P w K mg base 1 "is_text" spIsText []) : C8.Cal P w K mg base 2 "need_text" spNeedText [] := by
  refine C8.cal0 F (F.fn.binds df (ps := ["value"]) fun _ _ _ _ _ _ us hl => match us, hl with | [_], _ => rfl) .nil scNeedText (fun vs H Q E h => ?_) (fun cdv A outer s H vs Q E hr h => ?_)
  · obtain ⟨c, rfl, _⟩ := h
    rfl
  · obtain ⟨t, rfl, h1, hc, k⟩ := h
    refine ⟨_, pss_one (ps_if (pt_not (pt_val (C8.pe_c c1 hr (by decide) (by rfl) (pa_cons (pv 0) pa_nil)))) pss_never pss_nil), ?_⟩
    exact ⟨_, rfl, t, rfl, h1, hc, _, rfl, iteF k⟩
def spNeedFew : Sp := fun vs H Q _ => ∃ (d : Addr) (kvs : List (Key × V)), vs = [.ref d] ∧ H d = some (.dK kvs) ∧ kvs.length ≤ 12 ∧ Q .non H
theorem scNeedFew : FnScope ["images"] ["images"] (C8.fnScope sNeedFew) := C8.fnScope_by (by decide +kernel)
theorem cal_need_few {f : Addr} {fd : FuncData} (F : C8.Def K mg "need_few" sNeedFew f fd) (df : fd.defaults = .none) (T : Txt K mg) : C8.Cal P w K mg base 1 "need_few" spNeedFew [] := by
  refine C8.cal0 F (F.fn.binds df (ps := ["images"]) fun _ _ _ _ _ _ us hl => match us, hl with | [_], _ => rfl) .nil scNeedFew (fun vs H Q E h => ?_) (fun cdv A outer s H vs Q E hr h => ?_)
  · obtain ⟨d, kvs, rfl, _⟩ := h
    rfl
  · obtain ⟨d, kvs, rfl, hd, hl, k⟩ := h
    refine ⟨_, pss_one (ps_if (pt_cmpR op_gt (pe_callB call_lenD (by rfl) T.len PySem.boot_len (pa_cons (pv 0) pa_nil)) (C8.pe_gc (by rfl) T.few) (nomark _)) pss_never pss_nil), ?_⟩
    refine ⟨_, rfl, d, kvs, rfl, hd, _, _, rfl, rfl, _, rfl, ?_⟩
    exact ite2 (fun z => absurd (of_decide_eq_true z) (by omega)) (fun _ => k)
end
end K57
end part_K57B
section part_K57C
set_option Elab.async false
set_option linter.all false
set_option maxRecDepth 100000
set_option maxHeartbeats 4000000
/-! the law's pen -/
namespace K57
open PySem L2
/-- all but the object at p stays -/
def Keep (p : Addr) (H H' : Hp) : Prop := ∀ b o, H b = some o → b ≠ p → H' b = some o
theorem Keep.refl (p : Addr) (H : Hp) : Keep p H H := fun _ _ h _ => h
theorem Keep.trans {p : Addr} {H H1 H2 : Hp} (a : Keep p H H1) (b : Keep p H1 H2) : Keep p H H2 := fun c o h n => b c o (a c o h n) n
theorem Keep.of {p : Addr} {H H' : Hp} (s : Same H H') : Keep p H H' := fun b o h _ => s b o h
theorem Keep.new {p q : Addr} {H : Hp} {o : HO} (h : H q = none) : Keep p H (upd H q o) := fun b u e _ => by rw [upd_ne (ne_of_none e h)]; exact e
theorem Keep.put {p : Addr} {H : Hp} {o : HO} : Keep p H (upd H p o) := fun b u e n => by rw [upd_ne n]; exact e
theorem Same.new {q : Addr} {H : Hp} {o : HO} (h : H q = none) : Same H (upd H q o) := fun b u e => by rw [upd_ne (ne_of_none e h)]; exact e
/-- the pen at p: the script's cells at l, the turn t, what is left of a great one -/
structure Pen (H : Hp) (p l : Addr) (ns : List Int) (t g : Int) : Prop where
  pen : H p = some (.lst [.ref l, .int t, .int g])
  cells : H l = some (.lst (ns.map V.int))
theorem Pen.ne {H : Hp} {p l : Addr} {ns : List Int} {t g : Int} (h : Pen H p l ns t g) : l ≠ p := by
  intro e
  have a := h.pen
  have b := h.cells
  rw [e, a] at b
  cases ns with
  | nil => cases b
  | cons x r => cases b
theorem Pen.keep {H H' : Hp} {p l : Addr} {ns : List Int} {t g t' g' : Int} (h : Pen H p l ns t g) (k : Keep p H H') (e : H' p = some (.lst [.ref l, .int t', .int g'])) : Pen H' p l ns t' g' :=
  ⟨e, k _ _ h.cells h.ne⟩
theorem dp_ints {K : PySem.W.Frag} {H : Hp} : ∀ ns : List Int, DpAll K H (ns.map V.int) (ns.map PyData.int)
  | [] => .nil
  | _ :: r => .cons (.int _) (dp_ints r)
/-! data of lists and tuples, told item by item -/
theorem can_all {ds : List PyData} (h : ∀ d ∈ ds, d.canLay0 = true) : PyData.canLayAll0 ds = true := by
  induction ds with
  | nil => rfl
  | cons a r ih => simp only [PyData.canLayAll0, Bool.and_eq_true]; exact ⟨h a (by simp), ih fun d hd => h d (List.mem_cons_of_mem _ hd)⟩
theorem depth_all {ds : List PyData} {n : Nat} (h : ∀ d ∈ ds, d.depth ≤ n) : PyData.depthAll ds ≤ n := by
  induction ds with
  | nil => exact Nat.zero_le _
  | cons a r ih => simp only [PyData.depthAll]; exact Nat.max_le.mpr ⟨h a (by simp), ih fun d hd => h d (List.mem_cons_of_mem _ hd)⟩
theorem shaped_list {ds : List PyData} {n : Nat} (h : ∀ d ∈ ds, d.canLay0 = true ∧ d.depth ≤ n) (hn : n ≤ 60) : SeqAt.shaped (.list ds) = true := by
  have a := can_all fun d hd => (h d hd).1
  have b := depth_all fun d hd => (h d hd).2
  have c : (PyData.list ds).canLay0 = true := by simp only [PyData.canLay0]; exact a
  have e : (PyData.list ds).depth ≤ 64 := by simp only [PyData.depth]; omega
  exact Bool.and_eq_true_iff.mpr ⟨c, decide_eq_true e⟩
theorem can_tup {ds : List PyData} (h : ∀ d ∈ ds, d.canLay0 = true) : PyData.canLay0 (.tuple ds) = true := by simp only [PyData.canLay0]; exact can_all h
theorem depth_tup {ds : List PyData} {n : Nat} (h : ∀ d ∈ ds, d.depth ≤ n) : PyData.depth (.tuple ds) ≤ n + 1 := by simp only [PyData.depth]; exact Nat.succ_le_succ (depth_all h)
theorem shaped_ints (ns : List Int) : SeqAt.shaped (.list (ns.map PyData.int)) = true :=
  shaped_list (n := 0) (fun d hd => by
    obtain ⟨i, _, rfl⟩ := List.mem_map.mp hd
    exact ⟨by simp [PyData.canLay0], by simp [PyData.depth]⟩) (by decide)
theorem eqv_nil_of {ds : List PyData} (h : PyData.eqv (.list ds) (.list []) = false) : ds ≠ [] := by
  rintro rfl
  simp [PyData.eqv, PyData.eqvAll] at h
section
variable {P : Program} {w : World} {K : PySem.W.Frag} {mg : Str → Option Value} {base : Heap}
/-! ### _law_pen -/
def spPen (K : PySem.W.Frag) : Sp := fun vs H Q _ => ∃ (a : Addr) (ns : List Int), vs = [.ref a] ∧ SqL K H a (ns.map V.int) ∧
  ∀ (H' : Hp) (p l : Addr) (ms : List Int), Same H H' → H p = none → Pen H' p l ms 0 0 → Q (.ref p) H'
theorem scPen : FnScope ["_law_script"] ["_law_script"] (C8.fnScope sPen) := C8.fnScope_by (by decide +kernel)
theorem cut_ints (ns : List Int) (lo hi : Option Int) : ∃ ms : List Int, cutV (ns.map V.int) lo hi = ms.map V.int := by
  refine ⟨(ns.drop (HT.sIx (ns.map V.int).length 0 lo)).take (HT.sIx (ns.map V.int).length (ns.map V.int).length hi - HT.sIx (ns.map V.int).length 0 lo), ?_⟩
  unfold cutV
  rw [List.map_take, List.map_drop]
theorem cal_pen {f : Addr} {fd : FuncData} (F : C8.Def K mg "_law_pen" sPen f fd) (df : fd.defaults = .none) (T : Txt K mg) : C8.Cal P w K mg base 1 "_law_pen" (spPen K) [] := by
  refine C8.cal0 F (F.fn.binds df (ps := ["_law_script"]) fun _ _ _ _ _ _ us hl => match us, hl with | [_], _ => rfl) .nil scPen (fun vs H Q E h => ?_) (fun cdv A outer s H vs Q E hr h => ?_)
  · obtain ⟨a, ns, rfl, _⟩ := h
    rfl
  · obtain ⟨a, ns, rfl, hS, k⟩ := h
    refine ⟨_, pss_one (ps_ret (pe_lst (pa_cons (pe_callTy call_list_of (by rfl) T.list (by decide +kernel) (pa_cons (pe_slice sl_list (pv 0) po_none (po_some pe_int)) pa_nil)) (pa_cons pe_int (pa_cons pe_int pa_nil))))), ?_⟩
    refine ⟨_, rfl, _, rfl, a, _, rfl, hS, fun q nq => ?_⟩
    obtain ⟨ms, e⟩ := cut_ints ns none (some 63)
    rw [e]
    refine ⟨q, _, rfl, .inl (SqL.of upd_same), fun l nl => ?_⟩
    refine ⟨(by show 3 ≤ sizeLine; rw [sizeLine_eq]; decide), fun p np => ?_⟩
    have nlq : l ≠ q := fun e => by rw [e, upd_same] at nl; cases nl
    have npl : p ≠ l := fun e => by rw [e, upd_same] at np; cases np
    have np1 : upd H q (.lst (ms.map V.int)) p = none := by rw [upd_ne npl] at np; exact np
    have npq : p ≠ q := fun e => by rw [e, upd_same] at np1; cases np1
    have np0 : H p = none := by rw [upd_ne npq] at np1; exact np1
    refine k _ p l ms ?_ np0 ⟨upd_same, by rw [upd_ne npl.symm, upd_same]⟩
    exact ((Same.new nq).trans (Same.new nl)).trans (Same.new np)
end
end K57
end part_K57C
section part_K57D
set_option Elab.async false
set_option linter.all false
set_option maxRecDepth 100000
set_option maxHeartbeats 4000000
/-! _law_draw -/
namespace K57
open PySem L2
def spDraw : Sp := fun vs H Q _ => ∃ (p l : Addr) (ns : List Int) (t g many : Int), vs = [.ref p, .int many] ∧ Pen H p l ns t g ∧ 0 ≤ t ∧ t < 1000000 ∧ 0 < many ∧ many ≤ 1000 ∧
  ∀ (H' : Hp) (d t' g' : Int), 0 ≤ d → d < many → t ≤ t' → t' ≤ t + 1 → Keep p H H' → H' p = some (.lst [.ref l, .int t', .int g']) → Q (.int d) H'
theorem scDraw : FnScope ["_law_pen_here", "_law_many", "_law_digit", "_law_turn", "_law_cell", "_law_great", "_law_blend"] ["_law_pen_here", "_law_many"] (C8.fnScope sDraw) := C8.fnScope_by (by decide +kernel)
theorem mul_le {a b A B : Int} (h0 : 0 ≤ a) (h1 : a ≤ A) (h2 : 0 ≤ b) (h3 : b ≤ B) : 0 ≤ a * b ∧ a * b ≤ A * B := ⟨Int.mul_nonneg h0 h2, Int.mul_le_mul h1 h3 h2 (Int.le_trans h0 h1)⟩
theorem small_nat {a : Int} (h0 : 0 ≤ a) (h1 : a < 18446744073709551616) : a.natAbs < 2 ^ 64 := by
  have : (2 : Nat) ^ 64 = 18446744073709551616 := by decide
  omega
section
variable {P : Program} {w : World} {K : PySem.W.Frag} {mg : Str → Option Value} {base : Heap}
theorem cal_draw {f : Addr} {fd : FuncData} (F : C8.Def K mg "_law_draw" sDraw f fd) (df : fd.defaults = .none) (T : Txt K mg) : C8.Cal P w K mg base 1 "_law_draw" spDraw [] := by
  refine C8.cal0 F (F.fn.binds df (ps := ["_law_pen_here", "_law_many"]) fun _ _ _ _ _ _ us hl => match us, hl with | [_, _], _ => rfl) .nil scDraw (fun vs H Q E h => ?_) (fun cdv A outer s H vs Q E hr h => ?_)
  · obtain ⟨p, l, ns, t, g, many, rfl, _⟩ := h
    rfl
  · obtain ⟨p, l, ns, t, g, many, rfl, hp, t0, t1, m0, m1, k⟩ := h
    refine ⟨_, pss_cons (ps_if (pt_cmpR op_gt (pe_ix ix_list (pv 0) pe_int (fun _ _ => rfl)) pe_int (nomark _))
        (pss_cons (ps_set (i := 2) scDraw.nd rfl (Or.inl rfl) (pe_op op_mod (pe_callTy call_int1 (by rfl) T.int (by decide +kernel) (pa_cons (pe_ix ix_list (pv 0) pe_int (fun _ _ => rfl)) pa_nil)) (pv 1)))
          (pss_cons (ps_asg (pe_op op_fdiv (pe_callTy call_int1 (by rfl) T.int (by decide +kernel) (pa_cons (pe_ix ix_list (pv 0) pe_int (fun _ _ => rfl)) pa_nil)) (pv 1)) (pg_sub (pv 0) pe_int set_list))
            (pss_one (ps_ret (pv 2))))) pss_nil)
      (pss_cons (ps_set (i := 3) scDraw.nd rfl (Or.inl rfl) (pe_ix ix_list (pv 0) pe_int (fun _ _ => rfl)))
      (pss_cons (ps_asg (pe_op op_add (pv 3) pe_int) (pg_sub (pv 0) pe_int set_list))
      (pss_cons (ps_set (i := 4) scDraw.nd rfl (Or.inl rfl) (pe_op op_add (pe_op op_mul pe_int (pv 3)) pe_int))
      (C8.pss_cut (ps_if (pt_cmpR (op_neD hr.units) (pe_ix ix_list (pv 0) pe_int (fun _ _ => rfl)) (pe_lst pa_nil) (nomark _))
        (pss_one (ps_set (i := 4) scDraw.nd rfl (Or.inl rfl) (pe_ix ix_list (pe_ix ix_list (pv 0) pe_int (fun _ _ => rfl)) (pe_op op_mod (pe_callTy call_int1 (by rfl) T.int (by decide +kernel) (pa_cons (pv 3) pa_nil)) (pe_callB call_len_seq (by rfl) T.len PySem.boot_len (pa_cons (pe_ix ix_list (pv 0) pe_int (fun _ _ => rfl)) pa_nil))) (fun _ _ => rfl)))) pss_nil)
      (C8.pss_cut (ps_if (PW.pt (pw_and (pt_cmpR op_lt (pv 3) (pe_callB call_len_seq (by rfl) T.len PySem.boot_len (pa_cons (pe_ix ix_list (pv 0) pe_int (fun _ _ => rfl)) pa_nil)) (nomark _))
          (pw_and1 (pt_cmpR op_ge (pe_callB call_abs (by rfl) T.abs (by decide +kernel) (pa_cons (pv 4) pa_nil)) (pe_op op_pow pe_int pe_int) (nomark _)))))
        (pss_cons (ps_set (i := 5) scDraw.nd rfl (Or.inl rfl) (pe_op op_add (pe_op op_mul pe_int (pe_op op_sub (pe_callB call_abs (by rfl) T.abs (by decide +kernel) (pa_cons (pv 4) pa_nil)) (pe_op op_pow pe_int pe_int)))
            (pe_callTy call_int1 (by rfl) T.int (by decide +kernel) (pa_cons (pe_cmpR op_lt (pv 4) pe_int (nomark _)) pa_nil))))
          (pss_cons (ps_asg (pe_op op_fdiv (pe_callTy call_int1 (by rfl) T.int (by decide +kernel) (pa_cons (pv 5) pa_nil)) (pv 1)) (pg_sub (pv 0) pe_int set_list))
            (pss_one (ps_ret (pe_op op_mod (pe_callTy call_int1 (by rfl) T.int (by decide +kernel) (pa_cons (pv 5) pa_nil)) (pv 1)))))) pss_nil)
      (pss_cons (ps_set (i := 6) scDraw.nd rfl (Or.inl rfl) (pe_op op_mod (pe_callTy call_int1 (by rfl) T.int (by decide +kernel) (pa_cons (pe_op op_pow
          (pe_op op_add (pe_op op_add (pe_op op_mod (pe_callTy call_int1 (by rfl) T.int (by decide +kernel) (pa_cons (pv 4) pa_nil)) pe_int) (pe_op op_mul pe_int (pv 3))) pe_int) pe_int) pa_nil)) pe_int))
      (pss_cons (ps_set (i := 6) scDraw.nd rfl (Or.inl rfl) (pe_op op_mod (pe_callTy call_int1 (by rfl) T.int (by decide +kernel) (pa_cons (pe_op op_pow
          (pe_op op_add (pe_op op_add (pe_op op_mul (pv 6) (pe_op op_add (pe_op op_mul pe_int (pv 3)) pe_int)) (pe_op op_mul (pe_op op_mul pe_int (pv 3)) (pv 3))) pe_int) pe_int) pa_nil)) pe_int))
      (pss_one (ps_ret (pe_op op_mod (pe_callTy call_int1 (by rfl) T.int (by decide +kernel) (pa_cons (pe_op op_fdiv (pv 6) pe_int) pa_nil)) (pv 1))))))))))), ?_⟩
    -- a great one is not used up
    refine ⟨_, rfl, p, _, _, _, rfl, rfl, SqL.of hp.pen, rfl, _, _, rfl, rfl, _, rfl, ite2 (fun _ => ?_) (fun _ => ?_)⟩
    · refine ⟨_, rfl, p, _, _, _, rfl, rfl, SqL.of hp.pen, rfl, .inl ⟨_, rfl, _, rfl, _, _, rfl, rfl, m0, ?_⟩⟩
      refine ⟨_, rfl, p, _, _, _, rfl, rfl, SqL.of hp.pen, rfl, .inl ⟨_, rfl, _, rfl, _, _, rfl, rfl, ⟨m0, by omega⟩, ?_⟩⟩
      refine ⟨_, rfl, p, _, _, _, rfl, rfl, hp.pen, rfl, _, rfl, ?_⟩
      exact k _ _ t (g / many) (Int.emod_nonneg _ (by omega)) (Int.emod_lt_of_pos _ m0) (Int.le_refl _) (by omega) Keep.put upd_same
    -- the turn
    refine ⟨_, rfl, p, _, _, _, rfl, rfl, SqL.of hp.pen, rfl, _, rfl, _, _, rfl, rfl, _, rfl, p, _, _, _, rfl, rfl, hp.pen, rfl, ?_⟩
    have hp2 : Pen (upd H p (.lst [.ref l, .int (t + 1), .int g])) p l ns (t + 1) g := hp.keep Keep.put upd_same
    refine ⟨_, rfl, _, _, rfl, rfl, .inl ⟨by decide, by decide⟩, _, _, rfl, rfl, ?_⟩
    -- the cell
    refine ⟨fun σ' H' => ∃ c : Int, σ' = [some (.ref p), some (.int many), none, some (.int t), some (.int c), none, none] ∧ Keep p H H' ∧ Pen H' p l ns (t + 1) g, ?_, ?_⟩
    · refine ⟨_, rfl, p, _, _, _, rfl, rfl, SqL.of hp2.pen, rfl, (by show 0 ≤ sizeLine; exact Nat.zero_le _), fun q nq => ?_⟩
      have hp3 : Pen (upd (upd H p (.lst [.ref l, .int (t + 1), .int g])) q (.lst [])) p l ns (t + 1) g := hp2.keep (Keep.new nq) (by rw [upd_ne (ne_of_none hp2.pen nq)]; exact hp2.pen)
      refine ⟨.list (ns.map PyData.int), .list [], .lst (SqL.of hp3.cells) (dp_ints ns), .lst (SqL.of upd_same) .nil, shaped_ints ns, shaped_ints [], _, rfl, ?_⟩
      refine ite2 (fun z => ?_) (fun _ => ⟨_, rfl, Keep.put.trans (Keep.new nq), hp3⟩)
      have hne : ns ≠ [] := by
        have e : PyData.eqv (.list (ns.map PyData.int)) (.list []) = false := by simpa using z
        intro e2
        exact eqv_nil_of e (by rw [e2]; rfl)
      have hlen : 0 < ns.length := List.length_pos_iff.mpr hne
      refine ⟨_, rfl, p, _, _, _, rfl, rfl, SqL.of hp3.pen, rfl, _, rfl, .inl ⟨_, rfl, _, rfl, p, _, _, _, rfl, rfl, SqL.of hp3.pen, rfl, l, _, rfl, .inl (SqL.of hp3.cells), _, _, rfl, rfl, ?_, ?_⟩⟩
      · rw [List.length_map]; omega
      · rw [List.length_map]
        obtain ⟨j, hj, hjl⟩ : ∃ j : Nat, t % (ns.length : Int) = (j : Int) ∧ j < ns.length := by
          have h1 := Int.emod_nonneg t (show (ns.length : Int) ≠ 0 by omega)
          have h2 := Int.emod_lt_of_pos t (show (0 : Int) < ns.length by omega)
          exact ⟨(t % (ns.length : Int)).toNat, by omega, by omega⟩
        refine ⟨l, _, _, .int ns[j], rfl, rfl, SqL.of hp3.cells, ?_, ?_⟩
        · rw [hj]
          exact atI_nat (by simp [hjl])
        · exact ⟨_, rfl, Keep.put.trans (Keep.new nq), hp3⟩
    · rintro σ' H1 ⟨c, rfl, k1, hp4⟩
      -- a great cell
      refine ⟨fun σ' H' => σ' = [some (.ref p), some (.int many), none, some (.int t), some (.int c), none, none] ∧ H' = H1, ?_, ?_⟩
      · refine ⟨_, rfl, _, rfl, p, _, _, _, rfl, rfl, SqL.of hp4.pen, rfl, l, _, rfl, .inl (SqL.of hp4.cells), _, _, rfl, rfl, _, rfl, ite2 (fun _ => ?_) (fun _ => ⟨rfl, rfl⟩)⟩
        refine ⟨_, rfl, _, rfl, _, _, rfl, rfl, ⟨by decide, by decide, by decide⟩, _, _, rfl, rfl, _, rfl, ite2 (fun _ => ?_) (fun _ => ⟨rfl, rfl⟩)⟩
        refine ⟨_, rfl, _, rfl, _, _, rfl, rfl, ⟨by decide, by decide, by decide⟩, _, _, rfl, rfl, _, _, rfl, rfl, .inl ⟨by decide, by decide⟩, _, rfl, _, _, rfl, rfl, .inr ⟨_, rfl, _, _, rfl, rfl, ?_⟩⟩
        refine ⟨_, rfl, .inl ⟨_, rfl, _, rfl, _, _, rfl, rfl, ⟨m0, by omega⟩, ?_⟩⟩
        refine ⟨_, rfl, p, _, _, _, rfl, rfl, hp4.pen, rfl, ?_⟩
        refine ⟨_, rfl, .inl ⟨_, rfl, _, rfl, _, _, rfl, rfl, m0, ?_⟩⟩
        exact k _ _ (t + 1) _ (Int.emod_nonneg _ (by omega)) (Int.emod_lt_of_pos _ m0) (by omega) (by omega) (k1.trans Keep.put) upd_same
      · rintro σ' H2 ⟨rfl, rfl⟩
        -- the blend
        have c0 := Int.emod_nonneg c (show (2147483549 : Int) ≠ 0 by decide)
        have c1 := Int.emod_lt_of_pos c (show (0 : Int) < 2147483549 by decide)
        refine ⟨_, rfl, .inl ⟨_, rfl, _, _, rfl, rfl, (by show (0 : Int) < 2147483549; decide), _, rfl, _, _, rfl, rfl, .inl ⟨by decide, by decide⟩, _, _, rfl, rfl, _, _, rfl, rfl, _, _, rfl, rfl, ⟨by decide, by decide, small_nat (by omega) (by omega)⟩, .inl ⟨_, rfl, _, _, rfl, rfl, (by show (0 : Int) < 2147483647; decide), ?_⟩⟩⟩
        have b0 : 0 ≤ (c % 2147483549 + 44288 * t + 2662) ^ (5 : Int).toNat % 2147483647 := Int.emod_nonneg _ (by decide)
        have b1 : (c % 2147483549 + 44288 * t + 2662) ^ (5 : Int).toNat % 2147483647 < 2147483647 := Int.emod_lt_of_pos _ (by decide)
        obtain ⟨x0, x1⟩ := mul_le b0 (Int.le_of_lt b1) (show 0 ≤ 2 * t + 743 by omega) (show 2 * t + 743 ≤ 2000743 by omega)
        obtain ⟨y0, y1⟩ := mul_le (show 0 ≤ 53042 * t by omega) (show 53042 * t ≤ 53042000000 by omega) t0 (show t ≤ 1000000 by omega)
        refine ⟨_, rfl, _, rfl, _, _, rfl, rfl, .inl ⟨by decide, by decide⟩, _, _, rfl, rfl, _, _, rfl, rfl, .inl ⟨by omega, by omega⟩, _, rfl, _, _, rfl, rfl, .inl ⟨by decide, by decide⟩, _, rfl, _, _, rfl, rfl, .inl ⟨by omega, by omega⟩, _, _, rfl, rfl, _, _, rfl, rfl, _, _, rfl, rfl,
          ⟨by decide, by decide, small_nat (by omega) (by omega)⟩, .inl ⟨_, rfl, _, _, rfl, rfl, (by show (0 : Int) < 2147483563; decide), ?_⟩⟩
        refine ⟨_, rfl, _, _, rfl, rfl, ⟨by decide, by decide⟩, .inl ⟨_, rfl, _, rfl, _, _, rfl, rfl, m0, ?_⟩⟩
        exact k _ _ (t + 1) g (Int.emod_nonneg _ (by omega)) (Int.emod_lt_of_pos _ m0) (by omega) (by omega) k1 hp4.pen
end
end K57
end part_K57D
section part_K57E
set_option Elab.async false
set_option linter.all false
set_option maxRecDepth 100000
set_option maxHeartbeats 4000000
/-! _law_pick, _law_word -/
namespace K57
open PySem L2
/-- a list at a, or a text, by its items -/
def Some (p : Addr) (H : Hp) (x : V) (items : List V) : Prop := (∃ a, x = .ref a ∧ H a = some (.lst items) ∧ a ≠ p) ∨ ∃ z : List Nat, x = .str (SX.S z) ∧ items = z.map fun c => V.str (SX.S [c])
def spPick : Sp := fun vs H Q _ => ∃ (p l : Addr) (ns : List Int) (t g : Int) (x : V) (items : List V), vs = [.ref p, x] ∧ Pen H p l ns t g ∧ 0 ≤ t ∧ t < 1000000 ∧ Some p H x items ∧ items ≠ [] ∧ items.length ≤ 1000 ∧
  ∀ (H' : Hp) (v : V) (t' g' : Int), v ∈ items → t ≤ t' → t' ≤ t + 1 → Keep p H H' → H' p = some (.lst [.ref l, .int t', .int g']) → Q v H'
theorem scPick : FnScope ["_law_pen_here", "_law_some"] ["_law_pen_here", "_law_some"] (C8.fnScope sPick) := C8.fnScope_by (by decide +kernel)
section
variable {P : Program} {w : World} {K : PySem.W.Frag} {mg : Str → Option Value} {base : Heap}
theorem cal_pick {f : Addr} {fd : FuncData} (F : C8.Def K mg "_law_pick" sPick f fd) (df : fd.defaults = .none) (T : Txt K mg) (c1 : C8.Cal P w K mg base 1 "_law_draw" spDraw []) : C8.Cal P w K mg base 2 "_law_pick" spPick [] := by
  refine C8.cal0 F (F.fn.binds df (ps := ["_law_pen_here", "_law_some"]) fun _ _ _ _ _ _ us hl => match us, hl with | [_, _], _ => rfl) .nil scPick (fun vs H Q E h => ?_) (fun cdv A outer s H vs Q E hr h => ?_)
  · obtain ⟨p, l, ns, t, g, x, items, rfl, _⟩ := h
    rfl
  · obtain ⟨p, l, ns, t, g, x, items, rfl, hp, t0, t1, hx, hne, hl, k⟩ := h
    have pos : 0 < items.length := List.length_pos_iff.mpr hne
    refine ⟨_, pss_one (ps_ret (pe_ix ix_seq (pv 1) (C8.pe_c c1 hr (by decide) (by rfl) (pa_cons (pv 0) (pa_cons (pe_callB call_len (by rfl) T.len PySem.boot_len (pa_cons (pv 1) pa_nil)) pa_nil))) (fun _ _ => rfl))), ?_⟩
    have hlen : LenV K x H items.length := by
      rcases hx with ⟨a, rfl, ha, _⟩ | ⟨z, rfl, rfl⟩
      · exact .inl ⟨_, SqL.of ha, rfl⟩
      · rw [List.length_map] at hl ⊢
        exact ⟨by rw [SX.S_len]; exact le_line hl, by rw [SX.S_len]⟩
    refine ⟨_, rfl, _, rfl, _, rfl, x, items.length, rfl, hlen, p, l, ns, t, g, (items.length : Int), rfl, hp, t0, t1, by omega, by omega, fun H' d t' g' d0 d1 e1 e2 k1 hp' => ?_⟩
    obtain ⟨j, rfl⟩ : ∃ j : Nat, d = j := ⟨d.toNat, by omega⟩
    have hj : j < items.length := by omega
    rcases hx with ⟨a, rfl, ha, hap⟩ | ⟨z, rfl, rfl⟩
    · refine .inl ⟨a, items, _, items[j], rfl, rfl, SqL.of (k1 _ _ ha hap), atI_nat (by simp [hj]), ?_⟩
      exact k H' _ t' g' (List.getElem_mem hj) e1 e2 k1 hp'
    · rw [List.length_map] at hj hl
      refine .inr (.inr ⟨SX.S z, _, z[j], rfl, rfl, by rw [SX.S_len]; exact le_line hl, atI_nat (by simp [hj]), ?_⟩)
      exact k H' _ t' g' (List.mem_map.mpr ⟨z[j], List.getElem_mem hj, rfl⟩) e1 e2 k1 hp'
/-! ### _law_word -/
def spWord : Sp := fun vs H Q _ => ∃ (p l : Addr) (ns : List Int) (t g least most : Int) (z : List Nat), vs = [.ref p, .str (SX.S z), .int least, .int most] ∧ Pen H p l ns t g ∧ 0 ≤ t ∧ t + 20 ≤ 1000000 ∧ z ≠ [] ∧ z.length ≤ 100 ∧ 0 ≤ least ∧ least ≤ most ∧ most ≤ 10 ∧
  ∀ (H' : Hp) (u : List Nat) (t' g' : Int), least ≤ u.length → u.length ≤ most → (∀ c ∈ u, c ∈ z) → t ≤ t' → t' ≤ t + (most + 1) → Keep p H H' → H' p = some (.lst [.ref l, .int t', .int g']) → Q (.str (SX.S u)) H'
abbrev nWord : List Str := ["_law_pen_here", "_law_letters", "_law_least", "_law_most", "_law_turn"]
theorem scWord : FnScope nWord ["_law_pen_here", "_law_letters", "_law_least", "_law_most"] (C8.fnScope sWord) := C8.fnScope_by (by decide +kernel)
/-- the empty text, joined -/
theorem join_one : ∀ u : List Nat, Txt.join (Str.ofString "") ((u.map fun c => [c]).map SX.S) = SX.S u := by
  intro u
  have e : Str.ofString "" = SX.S [] := rfl
  rw [e, SX.join_S]
  congr 1
  induction u with
  | nil => rfl
  | cons a r ih =>
    cases r with
    | nil => rfl
    | cons b q =>
      show [a] ++ ([] ++ TL.joinL [] (([b] : List Nat) :: q.map fun c => [c])) = _
      rw [List.nil_append]
      show [a] ++ TL.joinL [] ((b :: q).map fun c => [c]) = _
      rw [ih]; rfl
theorem sum_one (u : List Nat) : (((u.map fun c => [c]).map SX.S).map (·.length)).sum = u.length := by
  induction u with
  | nil => rfl
  | cons a r ih => simp only [List.map_cons, List.sum_cons, SX.S_len, List.length_cons, List.length_nil] at ih ⊢; omega
theorem cal_word {f : Addr} {fd : FuncData} (F : C8.Def K mg "_law_word" sWord f fd) (df : fd.defaults = .none) (T : Txt K mg) (c1 : C8.Cal P w K mg base 1 "_law_draw" spDraw []) (c2 : C8.Cal P w K mg base 2 "_law_pick" spPick []) : C8.Cal P w K mg base 3 "_law_word" spWord [] := by
  refine C8.cal0 F (F.fn.binds df (ps := ["_law_pen_here", "_law_letters", "_law_least", "_law_most"]) fun _ _ _ _ _ _ us hl => match us, hl with | [_, _, _, _], _ => rfl) .nil scWord (fun vs H Q E h => ?_) (fun cdv A outer s H vs Q E hr h => ?_)
  · obtain ⟨p, l, ns, t, g, least, most, z, rfl, _⟩ := h
    rfl
  · obtain ⟨p, l, ns, t, g, least, most, z, rfl, hp, t0, t1, hz, hzl, l0, lm, m1, k⟩ := h
    refine ⟨_, pss_one (ps_ret (pe_join pe_str (pe_lc (own := [("_law_turn", 4)]) (g := gName 4) (tt := tYes) rfl scWord.nd
      (pi_range1 (by rfl) T.range (pa_cons (pe_op op_add (pv 2) (C8.pe_c c1 hr (by decide) (by rfl) (pa_cons (pv 0) (pa_cons (pe_op op_sub (pe_op op_add (pv 3) pe_int) (pv 2)) pa_nil)))) pa_nil))
      (blkOk_by (N := nWord) (sc := C8.fnScope sWord) (by decide +kernel)) (fun _ _ _ _ _ => pg_name (i := 4) scWord.nd rfl (Or.inl rfl)) (fun _ _ _ _ _ => pts_nil)
      (fun _ _ _ _ _ => C8.pe_c c2 hr (by decide) (by rfl) (pa_cons (pv 0) (pa_cons (pv 1) pa_nil)))))), ?_⟩
    refine ⟨⟨_, rfl⟩, _, rfl, _, rfl, _, rfl, _, _, rfl, rfl, _, rfl, _, _, rfl, rfl, p, l, ns, t, g, _, rfl, hp, t0, by omega, by omega, by omega, fun H1 d t' g' d0 d1 e1 e2 k1 hp1 => ?_⟩
    have P1 := hp.keep k1 hp1
    refine ⟨_, _, rfl, rfl, _, rfl, by omega, by omega, ?_⟩
    intro D hD
    have npD : p ≠ D := ne_of_none P1.pen hD
    refine lc_n (n := (least + d).toNat) (fun i H2 => ∃ (u : List Nat) (t2 g2 : Int), H2 D = some (.lst ((u.map fun c => [c]).map fun c => V.str (SX.S c))) ∧ u.length = i ∧ (∀ c ∈ u, c ∈ z) ∧ t' ≤ t2 ∧ t2 ≤ t' + i ∧ Keep p H H2 ∧ Pen H2 p l ns t2 g2)
      ⟨[], t', g', upd_same, rfl, fun c hc => (by cases hc), Int.le_refl _, by omega, k1.trans (Keep.new hD), P1.keep (Keep.new hD) (by rw [upd_ne npD]; exact hp1)⟩ (fun i H2 hi _ => hi) (fun H2 _ => Nat.le_refl _) ?_ ?_
    · rintro i H2 hi ⟨u, t2, g2, hD2, hu, hc, a1, a2, k2, P2⟩ x H3 ⟨rfl, rfl⟩
      refine ⟨rfl, ?_⟩
      refine ⟨_, rfl, _, rfl, p, l, ns, t2, g2, _, z.map fun c => V.str (SX.S [c]), rfl, P2, by omega, by omega, .inr ⟨z, rfl, rfl⟩, by simpa using hz, by rw [List.length_map]; omega, fun H4 v t3 g3 hv b1 b2 k3 hp3 => ?_⟩
      obtain ⟨c, hcz, rfl⟩ := List.mem_map.mp hv
      have hD4 := k3 _ _ hD2 npD.symm
      refine ⟨_, hD4, by rw [List.length_map, List.length_map, hu]; exact lt_line (m := 100) (by omega), ?_⟩
      refine ⟨u ++ [c], t3, g3, ?_, by simp [hu], fun y hy => ?_, by omega, by omega, fun b o e n => ?_, ⟨?_, ?_⟩⟩
      · rw [upd_same]; simp
      · rcases List.mem_append.mp hy with hy | hy
        · exact hc y hy
        · rw [List.mem_singleton.mp hy]; exact hcz
      · rw [upd_ne (ne_of_none (k1 b o e n) hD)]
        exact k3 b o (k2 b o e n) n
      · rw [upd_ne npD]; exact hp3
      · rw [upd_ne (ne_of_none P1.cells hD)]; exact k3 _ _ P2.cells P2.ne
    · rintro H2 ⟨u, t2, g2, hD2, hu, hc, a1, a2, k2, P2⟩
      refine ⟨_, _, (u.map fun c => [c]).map SX.S, rfl, rfl, .inl (SqL.of ?_), ?_, ?_⟩
      · rw [hD2, List.map_map (g := V.str)]; rfl
      · rw [sum_one]
        simp only [List.length_map, hu]
        have e0 : (Str.ofString "").length = 0 := rfl
        rw [e0]; omega
      · rw [join_one]
        exact k H2 u t2 g2 (by omega) (by omega) hc (by omega) (by omega) k2 P2.pen
end
end K57
end part_K57E
section part_K57F
set_option Elab.async false
set_option linter.all false
set_option maxRecDepth 100000
set_option maxHeartbeats 4000000
/-! _law_images, _law_image -/
namespace K57
open PySem L2 Org
/-- a table of images as a dict's pairs -/
def kvM (m : Mis) : List (Key × V) := m.map fun q => ((Sum.inr (SX.S [q.1]) : Key), V.str (SX.S q.2))
theorem S1_inj {a b : Nat} (h : SX.S [a] = SX.S [b]) : a = b := by
  have := SX.S_inj h
  simpa using this
theorem kvM_val {m : Mis} (nd : (m.map (·.1)).Nodup) (c : Nat) : valV (kvM m) (Sum.inr (SX.S [c]) : Key) = (m.lookup c).map fun t => V.str (SX.S t) := by
  induction m with
  | nil => rfl
  | cons q r ih =>
    obtain ⟨a, b⟩ := q
    simp only [List.map_cons, List.nodup_cons] at nd
    by_cases e : a = c
    · subst e
      rw [show kvM ((a, b) :: r) = ((Sum.inr (SX.S [a]) : Key), V.str (SX.S b)) :: kvM r from rfl, valV_pos rfl]
      simp [List.lookup]
    · rw [show kvM ((a, b) :: r) = ((Sum.inr (SX.S [a]) : Key), V.str (SX.S b)) :: kvM r from rfl, valV_neg (fun z => e (S1_inj (Sum.inr.inj z))), ih nd.2]
      have : (c == a) = false := by simpa using fun z => e (Eq.symm z)
      simp [List.lookup, this]
theorem kvM_len (m : Mis) : (kvM m).length = m.length := by simp [kvM]
theorem kvM_snoc {m : Mis} {c : Nat} {t : T} (h : c ∉ m.map (·.1)) : putK (kvM m) (Sum.inr (SX.S [c]) : Key) (V.str (SX.S t)) = kvM (m ++ [(c, t)]) := by
  have e : valV (kvM m) (Sum.inr (SX.S [c]) : Key) = none := by
    induction m with
    | nil => rfl
    | cons q r ih =>
      simp only [List.map_cons, List.mem_cons, not_or] at h
      rw [show kvM (q :: r) = ((Sum.inr (SX.S [q.1]) : Key), V.str (SX.S q.2)) :: kvM r from rfl, valV_neg (fun z => h.1 (S1_inj (Sum.inr.inj z)).symm), ih h.2]
  rw [putK_new _ e]
  simp [kvM]
section
variable {P : Program} {w : World} {K : PySem.W.Frag} {mg : Str → Option Value} {base : Heap}
def spImages : Sp := fun vs H Q _ => ∃ (p l : Addr) (ns : List Int) (t g : Int) (z : List Nat), vs = [.ref p, .str (SX.S z)] ∧ Pen H p l ns t g ∧ 0 ≤ t ∧ t + 100 ≤ 1000000 ∧ z.Nodup ∧ z.length ≤ 4 ∧
  ∀ (H' : Hp) (d : Addr) (m : Mis) (t' g' : Int), (m.map (·.1)).Sublist z → (∀ q ∈ m, 1 ≤ q.2.length ∧ q.2.length ≤ 3 ∧ ∀ c ∈ q.2, c ∈ z) → t ≤ t' → t' ≤ t + 5 * z.length → Keep p H H' → H' p = some (.lst [.ref l, .int t', .int g']) → H d = none → H' d = some (.dK (kvM m)) → Q (.ref d) H'
abbrev nImages : List Str := ["_law_pen_here", "_law_letters", "_law_found", "_law_letter", "_law_way"]
theorem scImages : FnScope nImages ["_law_pen_here", "_law_letters"] (C8.fnScope sImages) := C8.fnScope_by (by decide +kernel)
theorem cal_images {f : Addr} {fd : FuncData} (F : C8.Def K mg "_law_images" sImages f fd) (df : fd.defaults = .none) (T : Txt K mg) (c1 : C8.Cal P w K mg base 1 "_law_draw" spDraw []) (c2 : C8.Cal P w K mg base 3 "_law_word" spWord []) : C8.Cal P w K mg base 4 "_law_images" spImages [] := by
  refine C8.cal0 F (F.fn.binds df (ps := ["_law_pen_here", "_law_letters"]) fun _ _ _ _ _ _ us hl => match us, hl with | [_, _], _ => rfl) .nil scImages (fun vs H Q E h => ?_) (fun cdv A outer s H vs Q E hr h => ?_)
  · obtain ⟨p, l, ns, t, g, z, rfl, _⟩ := h
    rfl
  · obtain ⟨p, l, ns, t, g, z, rfl, hp, t0, t1, hz, hzl, k⟩ := h
    have hu := hu_of hr
    refine ⟨_, pss_cons (ps_set (i := 2) scImages.nd rfl (Or.inl rfl) pe_dnewK)
      (pss_cons (ps_for PassesOwn.never rfl (pi_str (pv 1)) (pg_name (i := 3) scImages.nd rfl (Or.inl rfl))
        (pss_cons (ps_set (i := 4) scImages.nd rfl (Or.inl rfl) (C8.pe_c c1 hr (by decide) (by rfl) (pa_cons (pv 0) (pa_cons pe_int pa_nil))))
        (pss_one (ps_if (pt_cmpR op_gt (pv 4) pe_int (nomark _))
          (pss_one (ps_dput hu (pv 2) (pv 3) (pe_ifExp (pt_cmpR op_lt (pv 4) pe_int (nomark _)) (pv 3) (C8.pe_c c2 hr (by decide) (by rfl) (pa_cons (pv 0) (pa_cons (pv 1) (pa_cons pe_int (pa_cons pe_int pa_nil)))))) rfl)) pss_nil))))
      (pss_one (ps_ret (pv 2)))), ?_⟩
    intro d hd
    have npd : p ≠ d := ne_of_none hp.pen hd
    have nld : l ≠ d := ne_of_none hp.cells hd
    refine ⟨_, rfl, _, rfl, for_n (n := z.length) (fun i σ H1 => ∃ (v3 v4 : Option V) (m : Mis) (t2 g2 : Int), σ = [some (.ref p), some (.str (SX.S z)), some (.ref d), v3, v4] ∧ (m.map (·.1)).Sublist (z.take i) ∧ (∀ q ∈ m, 1 ≤ q.2.length ∧ q.2.length ≤ 3 ∧ ∀ c ∈ q.2, c ∈ z) ∧
        t ≤ t2 ∧ t2 ≤ t + 5 * i ∧ Keep p H H1 ∧ Pen H1 p l ns t2 g2 ∧ H1 d = some (.dK (kvM m)))
      ⟨none, none, [], t, g, rfl, by simp, (fun q hq => by cases hq), Int.le_refl _, by omega, Keep.new hd, hp.keep (Keep.new hd) (by rw [upd_ne npd]; exact hp.pen), upd_same⟩
      (fun i σ H1 hi _ => by show i < _; rw [S_size]; exact hi) (fun σ H1 _ => by show _ ≤ z.length; rw [S_size]; exact Nat.le_refl _) ?_ ?_⟩
    · rintro i σ H1 hi ⟨v3, v4, m, t2, g2, rfl, hm, hq, a1, a2, k1, P1, hd1⟩ x H2 ⟨rfl, c, hx, rfl⟩
      rw [S_get] at hx
      have hcz : c ∈ z := List.mem_of_getElem? hx
      have htake : z.take (i + 1) = z.take i ++ [c] := by rw [List.take_add_one, hx]; rfl
      have hcm : c ∉ m.map (·.1) := fun hin => by
        have h1 := hm.subset hin
        have h2 : (z.take (i + 1)).Nodup := hz.sublist (List.take_sublist _ _)
        rw [htake, List.nodup_append] at h2
        exact h2.2.2 c h1 c (by simp) rfl
      refine ⟨_, rfl, p, l, ns, t2, g2, 7, rfl, P1, by omega, by omega, by decide, by decide, fun H3 way t3 g3 w0 w1 b1 b2 k2 hp3 => ?_⟩
      have P3 := P1.keep k2 hp3
      have hd3 := k2 _ _ hd1 npd.symm
      refine ⟨_, rfl, _, _, rfl, rfl, _, rfl, ite2 (fun _ => ?_) (fun _ => ?_)⟩
      · refine ⟨_, rfl, _, _, rfl, rfl, _, rfl, ite2 (fun _ => ?_) (fun _ => ?_)⟩
        · -- it stays
          refine ⟨_, rfl, _, rfl, _, rfl, d, _, rfl, DPut.k (k := (Sum.inr (SX.S [c]) : Key)) hd3 (by rw [kvM_len]; have := hm.length_le; rw [List.length_map, List.length_take] at this; exact lt_line (m := 100) (by omega)), ?_⟩
          refine ⟨_, _, m ++ [(c, [c])], t3, g3, rfl, ?_, ?_, by omega, by omega, fun b o e n => ?_, ⟨?_, ?_⟩, ?_⟩
          · rw [htake, List.map_append]; exact hm.append (List.Sublist.refl _)
          · intro q h
            rcases List.mem_append.mp h with h | h
            · exact hq q h
            · rw [List.mem_singleton.mp h]
              exact ⟨Nat.le_refl _, (by show 1 ≤ 3; decide), fun y hy => by rw [List.mem_singleton.mp hy]; exact hcz⟩
          · rw [upd_ne (ne_of_none e hd)]
            exact k2 b o (k1 b o e n) n
          · rw [upd_ne npd]; exact hp3
          · rw [upd_ne nld]; exact P3.cells
          · rw [upd_same, kvM_snoc hcm]
        · -- a drawn image
          refine ⟨_, rfl, _, rfl, p, l, ns, t3, g3, 1, 3, z, rfl, P3, by omega, by omega, (fun e => by rw [e] at hcz; cases hcz), by omega, by decide, by decide, by decide, fun H4 u t4 g4 u0 u1 hu4 d1 d2 k3 hp4 => ?_⟩
          have P4 := P3.keep k3 hp4
          have hd4 := k3 _ _ hd3 npd.symm
          refine ⟨_, rfl, _, rfl, d, _, rfl, DPut.k (k := (Sum.inr (SX.S [c]) : Key)) hd4 (by rw [kvM_len]; have := hm.length_le; rw [List.length_map, List.length_take] at this; exact lt_line (m := 100) (by omega)), ?_⟩
          refine ⟨_, _, m ++ [(c, u)], t4, g4, rfl, ?_, ?_, by omega, by omega, fun b o e n => ?_, ⟨?_, ?_⟩, ?_⟩
          · rw [htake, List.map_append]; exact hm.append (List.Sublist.refl _)
          · intro q h
            rcases List.mem_append.mp h with h | h
            · exact hq q h
            · rw [List.mem_singleton.mp h]
              exact ⟨by show 1 ≤ u.length; omega, by show u.length ≤ 3; omega, hu4⟩
          · rw [upd_ne (ne_of_none e hd)]
            exact k3 b o (k2 b o (k1 b o e n) n) n
          · rw [upd_ne npd]; exact hp4
          · rw [upd_ne nld]; exact P4.cells
          · rw [upd_same, kvM_snoc hcm]
      · exact ⟨_, _, m, t3, g3, rfl, hm.trans (by rw [htake]; exact List.sublist_append_left _ _), hq, by omega, by omega, k1.trans k2, P3, hd3⟩
    · rintro σ H1 ⟨v3, v4, m, t2, g2, rfl, hm, hq, a1, a2, k1, P1, hd1⟩
      rw [List.take_length] at hm
      exact ⟨_, rfl, k H1 d m t2 g2 hm hq a1 a2 k1 P1.pen hd hd1⟩
end
end K57
end part_K57F
section part_K57G
set_option Elab.async false
set_option linter.all false
set_option maxRecDepth 100000
set_option maxHeartbeats 4000000
/-! _law_image, _law_garbled -/
namespace K57
open PySem L2 Org
section
variable {P : Program} {w : World} {K : PySem.W.Frag} {mg : Str → Option Value} {base : Heap}
def spImage : Sp := fun vs H Q _ => ∃ (d : Addr) (m : Mis) (t : List Nat) (al : Nat → Prop), vs = [.ref d, .str (SX.S t)] ∧ H d = some (.dK (kvM m)) ∧ (m.map (·.1)).Nodup ∧ (∀ q ∈ m, q.2.length ≤ 3 ∧ ∀ c ∈ q.2, al c) ∧ t.length ≤ 7 ∧
  (∀ H', Same H H' → Q .non H') ∧ ∀ (H' : Hp) (u : List Nat), Same H H' → u.length ≤ 21 → (∀ c ∈ u, al c) → Q (.str (SX.S u)) H'
abbrev nImage : List Str := ["_law_images_so", "_law_text_so", "_law_rows", "_law_letter"]
theorem scImage : FnScope nImage ["_law_images_so", "_law_text_so"] (C8.fnScope sImage) := C8.fnScope_by (by decide +kernel)
/-- a row of images, None where a letter has none -/
def oV : Option T → V
  | none => .non
  | some t => .str (SX.S t)
theorem flat_oV (l : List (Option T)) : (l.map oV).all flatV = true := by
  rw [List.all_eq_true]
  intro v hv
  obtain ⟨o, _, rfl⟩ := List.mem_map.mp hv
  cases o <;> rfl
theorem in_oV : ∀ l : List (Option T), inV .non (l.map oV) = false → ∃ ts : List T, l = ts.map some
  | [], _ => ⟨[], rfl⟩
  | none :: r, h => by simp [inV, oV, eqV] at h
  | some t :: r, h => by
    have h' : inV .non (r.map oV) = false := by
      unfold inV at h ⊢
      simp only [List.map_cons, List.any_cons, Bool.or_eq_false_iff] at h
      exact h.2
    obtain ⟨ts, e⟩ := in_oV r h'
    exact ⟨t :: ts, by rw [e]; rfl⟩
theorem join_all (ts : List T) : Txt.join (Str.ofString "") (ts.map SX.S) = SX.S ts.flatten := by
  have e : Str.ofString "" = SX.S [] := rfl
  rw [e, SX.join_S]
  congr 1
  induction ts with
  | nil => rfl
  | cons a r ih =>
    cases r with
    | nil => simp [TL.joinL]
    | cons b q =>
      show a ++ ([] ++ TL.joinL [] (b :: q)) = _
      rw [List.nil_append, ih]; rfl
theorem sum_all (ts : List T) : ((ts.map SX.S).map (·.length)).sum = ts.flatten.length := by
  rw [SX.lens, List.length_flatten]
theorem flat_len {ts : List T} {n : Nat} (h : ∀ t ∈ ts, t.length ≤ n) : ts.flatten.length ≤ ts.length * n := by
  induction ts with
  | nil => simp
  | cons a r ih =>
    have h1 := h a (by simp)
    have h2 := ih fun t ht => h t (List.mem_cons_of_mem _ ht)
    rw [List.flatten_cons, List.length_append, List.length_cons, Nat.succ_mul]
    omega
theorem cal_image {f : Addr} {fd : FuncData} (F : C8.Def K mg "_law_image" sImage f fd) (df : fd.defaults = .none) (T : Txt K mg) : C8.Cal P w K mg base 1 "_law_image" spImage [] := by
  refine C8.cal0 F (F.fn.binds df (ps := ["_law_images_so", "_law_text_so"]) fun _ _ _ _ _ _ us hl => match us, hl with | [_, _], _ => rfl) .nil scImage (fun vs H Q E h => ?_) (fun cdv A outer s H vs Q E hr h => ?_)
  · obtain ⟨d, m, t, al, rfl, _⟩ := h
    rfl
  · obtain ⟨d, m, t, al, rfl, hd, nd, hm, hl, kN, kS⟩ := h
    have hu := hu_of hr
    refine ⟨_, pss_cons (ps_setLc (i := 2) (own := [("_law_letter", 3)]) (g := gName 3) (tt := tYes) rfl scImage.nd rfl rfl (sw_true rfl rfl rfl (by decide +kernel)) (pi_str (pv 1))
        (blkOk_by (N := nImage) (sc := C8.fnScope sImage) (by decide +kernel)) (fun _ _ _ _ _ => pg_name (i := 3) scImage.nd rfl (Or.inl rfl)) (fun _ _ _ _ _ => pts_nil)
        (fun _ _ _ _ _ => pe_dget1 hu (pv 0) (pv 3) ⟨rfl, rfl, rfl, rfl⟩))
      (pss_one (ps_ret (pe_ifExp (pt_cmpR op_in_seq pe_non (pv 2) (by rfl)) pe_non (pe_join pe_str (pv 2))))), ?_⟩
    refine ⟨_, rfl, _, rfl, ?_⟩
    intro D hD
    refine lc_n (n := t.length) (fun i H2 => Same H H2 ∧ H2 D = some (.lst (((t.take i).map fun c => m.lookup c).map oV))) ⟨Same.new hD, by rw [upd_same]; rfl⟩ (fun i H2 hi _ => by show i < _; rw [S_size]; exact hi) (fun H2 _ => by show _ ≤ t.length; rw [S_size]; exact Nat.le_refl _) ?_ ?_
    · rintro i H2 hi ⟨s2, h2⟩ x H3 ⟨rfl, c, hx, rfl⟩
      rw [S_get] at hx
      refine ⟨rfl, ?_⟩
      refine ⟨_, rfl, d, rfl, .inl ⟨_, .inl (s2 _ _ hd)⟩, _, rfl, _, DGet.k (k := (Sum.inr (SX.S [c]) : Key)) (s2 _ _ hd), _, h2, ?_, ?_, ?_⟩
      · simp only [List.length_map, List.length_take]; exact lt_line (m := 100) (by omega)
      · intro b o e
        rw [upd_ne (ne_of_none e hD)]
        exact s2 b o e
      · rw [upd_same, List.take_add_one, hx, kvM_val nd]
        have e : ((m.lookup c).map fun t => V.str (SX.S t)).getD .non = oV (m.lookup c) := by cases m.lookup c <;> rfl
        rw [e]
        simp
    · rintro H2 ⟨s2, h2⟩
      rw [List.take_length] at h2
      refine ⟨_, rfl, D, _, rfl, .inl (SqL.of h2), rfl, flat_oV _, _, rfl, ?_⟩
      show if (if false = true then !inV .non (((t.map fun c => m.lookup c)).map oV) else inV .non ((t.map fun c => m.lookup c).map oV)) = true then _ else _
      rw [if_neg Bool.false_ne_true]
      refine ite2 (fun _ => kN H2 s2) (fun z => ?_)
      obtain ⟨ts, ets⟩ := in_oV (t.map fun c => m.lookup c) (Bool.eq_false_iff.mpr z)
      rw [ets, List.map_map] at h2
      have hts : ∀ u ∈ ts, u.length ≤ 3 ∧ ∀ c ∈ u, al c := fun u hu' => by
        have h1 : (some u : Option Org.T) ∈ t.map fun c => m.lookup c := by rw [ets]; exact List.mem_map.mpr ⟨u, hu', rfl⟩
        obtain ⟨c, _, e⟩ := List.mem_map.mp h1
        have h3 : (c, u) ∈ m := by
          have := List.lookup_eq_some_iff.mp e
          obtain ⟨l1, l2, e2, _⟩ := this
          rw [e2]; simp
        exact hm _ h3
      have hlen : ts.length = t.length := by
        have := congrArg List.length ets
        simpa using this.symm
      have hfl := flat_len fun u hu' => (hts u hu').1
      refine ⟨⟨_, rfl⟩, _, rfl, _, _, ts.map SX.S, rfl, rfl, .inl (SqL.of (by rw [h2, List.map_map]; rfl)), ?_, ?_⟩
      · rw [sum_all]
        have e0 : (Str.ofString "").length = 0 := rfl
        rw [e0]; omega
      · rw [join_all]
        refine kS H2 _ s2 (by omega) fun c hc => ?_
        obtain ⟨u, hu', hcu⟩ := List.mem_flatten.mp hc
        exact (hts u hu').2 c hcu
end
end K57
end part_K57G
section part_K57H
set_option Elab.async false
set_option linter.all false
set_option maxRecDepth 100000
set_option maxHeartbeats 4000000
/-! _law_garbled -/
namespace K57
open PySem L2 Org
section
variable {P : Program} {w : World} {K : PySem.W.Frag} {mg : Str → Option Value} {base : Heap}
/-- the drawn tables -/
structure Rules (H : Hp) (z : List Nat) (ds : List Addr) (ms : List Mis) : Prop where
  dic : Paired (fun d m => H d = some (.dK (kvM m))) ds ms
  keys : ∀ m ∈ ms, (m.map (·.1)).Sublist z
  imgs : ∀ m ∈ ms, ∀ q ∈ m, 1 ≤ q.2.length ∧ q.2.length ≤ 3 ∧ ∀ c ∈ q.2, c ∈ z
theorem paired_mem {α β : Type} {G : α → β → Prop} {xs : List α} {ys : List β} (h : Paired G xs ys) : ∀ x ∈ xs, ∃ y ∈ ys, G x y := by
  induction h with
  | nil => intro x hx; cases hx
  | cons g t ih =>
    intro x hx
    rcases List.mem_cons.mp hx with e | hx
    · rw [e]; exact ⟨_, by simp, g⟩
    · obtain ⟨y, hy, g'⟩ := ih x hx
      exact ⟨y, List.mem_cons_of_mem _ hy, g'⟩
theorem Rules.keep {H H' : Hp} {z : List Nat} {ds : List Addr} {ms : List Mis} {p : Addr} (h : Rules H z ds ms) (k : ∀ d kvs, H d = some (.dK kvs) → H' d = some (.dK kvs)) : Rules H' z ds ms :=
  ⟨Paired.mapP h.dic fun d m e => k d _ e, h.keys, h.imgs⟩
theorem Pen.noD {H : Hp} {p l d : Addr} {ns : List Int} {t g : Int} {kvs : List (Key × V)} (h : Pen H p l ns t g) (e : H d = some (.dK kvs)) : d ≠ p := ne_of e h.pen (fun z => nomatch z)
theorem Pen.noR {H : Hp} {p l r : Addr} {ns : List Int} {t g : Int} {ds : List Addr} (h : Pen H p l ns t g) (e : H r = some (.lst (ds.map V.ref))) : r ≠ p := by
  intro z
  rw [z, h.pen] at e
  cases ds with
  | nil => cases e
  | cons a b => cases b with
    | nil => cases e
    | cons c d => cases e
def spGarbled : Sp := fun vs H Q _ => ∃ (p l r : Addr) (ns : List Int) (t g : Int) (z : List Nat) (ds : List Addr) (ms : List Mis), vs = [.ref p, .ref r, .str (SX.S z)] ∧ Pen H p l ns t g ∧ 0 ≤ t ∧ t + 100 ≤ 1000000 ∧ z ≠ [] ∧ z.Nodup ∧ z.length ≤ 100 ∧
  H r = some (.lst (ds.map V.ref)) ∧ ds ≠ [] ∧ ds.length ≤ 4 ∧ Rules H z ds ms ∧
  ∀ (H' : Hp) (u : List Nat) (t' g' : Int), u.length ≤ 7 → (∀ c ∈ u, c ∈ z) → t ≤ t' → t' ≤ t + 20 → Keep p H H' → H' p = some (.lst [.ref l, .int t', .int g']) → Q (.str (SX.S u)) H'
abbrev nGarbled : List Str := ["_law_pen_here", "_law_rules", "_law_letters", "_law_found", "_law_turn", "_law_later"]
theorem scGarbled : FnScope nGarbled ["_law_pen_here", "_law_rules", "_law_letters"] (C8.fnScope sGarbled) := C8.fnScope_by (by decide +kernel)
theorem cal_garbled {f : Addr} {fd : FuncData} (F : C8.Def K mg "_law_garbled" sGarbled f fd) (df : fd.defaults = .none) (T : Txt K mg) (c1 : C8.Cal P w K mg base 1 "_law_draw" spDraw []) (c2 : C8.Cal P w K mg base 2 "_law_pick" spPick [])
    (c3 : C8.Cal P w K mg base 3 "_law_word" spWord []) (c4 : C8.Cal P w K mg base 1 "_law_image" spImage []) : C8.Cal P w K mg base 4 "_law_garbled" spGarbled [] := by
  refine C8.cal0 F (F.fn.binds df (ps := ["_law_pen_here", "_law_rules", "_law_letters"]) fun _ _ _ _ _ _ us hl => match us, hl with | [_, _, _], _ => rfl) .nil scGarbled (fun vs H Q E h => ?_) (fun cdv A outer s H vs Q E hr h => ?_)
  · obtain ⟨p, l, r, ns, t, g, z, ds, ms, rfl, _⟩ := h
    rfl
  · obtain ⟨p, l, r, ns, t, g, z, ds, ms, rfl, hp, t0, t1, hz, hzn, hzl, hr0, hds, hdl, R, k⟩ := h
    refine ⟨_, pss_cons (ps_set (i := 3) scGarbled.nd rfl (Or.inl rfl) (C8.pe_c c3 hr (by decide) (by rfl) (pa_cons (pv 0) (pa_cons (pv 2) (pa_cons pe_int (pa_cons pe_int pa_nil))))))
      (pss_cons (ps_for PassesOwn.never rfl (pi_range1 (by rfl) T.range (pa_cons (C8.pe_c c1 hr (by decide) (by rfl) (pa_cons (pv 0) (pa_cons pe_int pa_nil))) pa_nil)) (pg_name (i := 4) scGarbled.nd rfl (Or.inl rfl))
        (pss_cons (ps_set (i := 5) scGarbled.nd rfl (Or.inl rfl) (C8.pe_c c4 hr (by decide) (by rfl) (pa_cons (C8.pe_c c2 hr (by decide) (by rfl) (pa_cons (pv 0) (pa_cons (pv 1) pa_nil))) (pa_cons (pv 3) pa_nil))))
        (pss_one (ps_set (i := 3) scGarbled.nd rfl (Or.inl rfl) (pe_ifExp (PW.pt (pw_and (pt_cmpR op_notN (pv 5) pe_non (nomark _)) (pw_and1 (pt_cmpR op_le (pe_callB call_len_str (by rfl) T.len PySem.boot_len (pa_cons (pv 5) pa_nil)) pe_int (nomark _))))) (pv 5) (pv 3))))))
      (pss_one (ps_ret (pv 3)))), ?_⟩
    refine ⟨_, rfl, _, rfl, p, l, ns, t, g, 0, 4, z, rfl, hp, t0, by omega, hz, hzl, by decide, by decide, by decide, fun H1 u t2 g2 u0 u1 hu a1 a2 k1 hp1 => ?_⟩
    have P1 := hp.keep k1 hp1
    refine ⟨_, rfl, p, l, ns, t2, g2, 5, rfl, P1, by omega, by omega, by decide, by decide, fun H2 d t3 g3 d0 d1 b1 b2 k2 hp2 => ?_⟩
    have P2 := P1.keep k2 hp2
    refine ⟨d, rfl, by omega, by omega, ?_⟩
    refine for_n (n := d.toNat) (fun i σ H3 => ∃ (v4 v5 : Option V) (u : List Nat) (t4 g4 : Int), σ = [some (.ref p), some (.ref r), some (.str (SX.S z)), some (.str (SX.S u)), v4, v5] ∧ u.length ≤ 7 ∧ (∀ c ∈ u, c ∈ z) ∧ t ≤ t4 ∧ t4 ≤ t + 6 + i ∧ Keep p H H3 ∧ Pen H3 p l ns t4 g4)
      ⟨none, none, u, t3, g3, rfl, by omega, hu, by omega, by omega, k1.trans k2, P2⟩ (fun i σ H3 hi _ => hi) (fun σ H3 _ => Nat.le_refl _) ?_ ?_
    · rintro i σ H3 hi ⟨v4, v5, u, t4, g4, rfl, hul, hu, e1, e2, k3, P3⟩ x H4 ⟨rfl, rfl⟩
      have hr3 := k3 _ _ hr0 (hp.noR hr0)
      refine ⟨_, rfl, _, rfl, p, l, ns, t4, g4, _, ds.map V.ref, rfl, P3, by omega, by omega, .inl ⟨r, rfl, hr3, hp.noR hr0⟩, by simpa using hds, by rw [List.length_map]; omega, fun H5 v t5 g5 hv f1 f2 k5 hp5 => ?_⟩
      obtain ⟨e, he, rfl⟩ := List.mem_map.mp hv
      obtain ⟨m, hm, hd⟩ := paired_mem R.dic e he
      have hd5 := k5 _ _ (k3 _ _ hd (hp.noD hd)) (hp.noD hd)
      have P5 := P3.keep k5 hp5
      have ok := R.imgs m hm
      refine ⟨_, rfl, e, m, u, (· ∈ z), rfl, hd5, hzn.sublist (R.keys m hm), fun q hq => ⟨(ok q hq).2.1, (ok q hq).2.2⟩, hul, fun H6 s6 => ?_, fun H6 y s6 hy hyz => ?_⟩
      · refine ⟨_, rfl, rfl, _, rfl, iteF ⟨_, rfl, ?_⟩⟩
        exact ⟨_, _, u, t5, g5, rfl, hul, hu, by omega, by omega, (k3.trans k5).trans (.of s6), P5.keep (.of s6) (s6 _ _ hp5)⟩
      · refine ⟨_, rfl, rfl, _, rfl, iteT ?_⟩
        refine ⟨_, rfl, _, rfl, by rw [SX.S_len]; exact le_line (m := 100) (by omega), _, _, rfl, rfl, _, rfl, ?_⟩
        rw [SX.S_len]
        refine ite2 (fun z => ?_) (fun _ => ?_)
        · have hy7 : y.length ≤ 7 := by have := of_decide_eq_true z; omega
          exact ⟨_, rfl, _, _, y, t5, g5, rfl, hy7, hyz, by omega, by omega, (k3.trans k5).trans (.of s6), P5.keep (.of s6) (s6 _ _ hp5)⟩
        · exact ⟨_, rfl, _, _, u, t5, g5, rfl, hul, hu, by omega, by omega, (k3.trans k5).trans (.of s6), P5.keep (.of s6) (s6 _ _ hp5)⟩
    · rintro σ H3 ⟨v4, v5, u, t4, g4, rfl, hul, hu, e1, e2, k3, P3⟩
      exact ⟨_, rfl, k H3 u t4 g4 hul hu e1 (by omega) k3 P3.pen⟩
end
end K57
end part_K57H
section part_K57I
set_option Elab.async false
set_option linter.all false
set_option maxRecDepth 100000
set_option maxHeartbeats 4000000
/-! _law_sources -/
namespace K57
open PySem L2 Org
def txts (l : List T) : List V := l.map fun s => V.str (SX.S s)
theorem txts_len (l : List T) : (txts l).length = l.length := by simp [txts]
theorem txts_app (a b : List T) : txts (a ++ b) = txts a ++ txts b := by simp [txts]
theorem cutS_S (t : List Nat) (a k : Nat) (h : a ≤ t.length) : cutS (SX.S t) (some (a : Int)) (some ((a : Int) + (k : Int))) = SX.S ((t.drop a).take k) := by
  unfold cutS
  rw [show ((a : Int) + (k : Int)) = ((a + k : Nat) : Int) by omega, HT.sIx_nat, HT.sIx_nat, SX.S_len]
  show SX.S (List.take _ (List.drop _ t)) = _
  congr 1
  rw [Nat.min_eq_left h]
  rcases Nat.le_total (a + k) t.length with h2 | h2
  · rw [Nat.min_eq_left h2]; congr 1; omega
  · rw [Nat.min_eq_right h2, List.take_of_length_le (by rw [List.length_drop]; exact Nat.le_refl _), List.take_of_length_le (by rw [List.length_drop]; omega)]
theorem pre_iff (img t : List Nat) : img.isPrefixOf t = decide (V.str (SX.S (t.take img.length)) = V.str (SX.S img)) := by
  have e : (V.str (SX.S (t.take img.length)) = V.str (SX.S img)) ↔ t.take img.length = img := ⟨fun h => SX.S_inj (V.str.inj h), fun h => by rw [h]⟩
  rw [Bool.eq_iff_iff, List.isPrefixOf_iff_prefix, decide_eq_true_iff, e, List.prefix_iff_eq_take]
  exact ⟨Eq.symm, Eq.symm⟩
theorem cut_to (xs : List V) (k : Nat) : cutV xs none (some (k : Int)) = xs.take k := by
  unfold cutV
  rw [HT.sIx_none, HT.sIx_nat, List.drop_zero, Nat.sub_zero]
  rcases Nat.le_total k xs.length with h | h
  · rw [Nat.min_eq_left h]
  · rw [Nat.min_eq_right h, List.take_length, List.take_of_length_le h]
theorem tab_at {m : Mis} {t : T} {j : Nat} (h : j ≤ t.length) : (tab m t).getD j [] = srcs m (t.drop j) := by
  unfold srcs
  rw [headD_getD, ← tab_drop m t j h]
  simp
theorem tab_len501 (m : Mis) (t : T) (j : Nat) : ((tab m t).getD j []).length ≤ 501 := by
  rcases Nat.lt_or_ge t.length j with h | h
  · rw [List.getD_eq_getElem?_getD, List.getElem?_eq_none (by rw [tab_len]; omega)]; simp
  · rw [tab_at h]; exact srcs_len m _
theorem tab_rest {m : Mis} {t : T} {at_ j : Nat} (h : at_ < t.length) (hj : 1 ≤ j) : (tab m (t.drop (at_ + 1))).getD (j - 1) [] = (tab m t).getD (at_ + j) [] := by
  rw [← tab_drop m t (at_ + 1) h]
  simp only [List.getD_eq_getElem?_getD, List.getElem?_drop]
  congr 2
  omega
theorem tab_cell {m : Mis} {t : T} {i : Nat} (h : i < t.length) : (tab m t).getD i [] = cell m (t.drop i) (tab m (t.drop (i + 1))) := by
  rw [tab_at (Nat.le_of_lt h)]
  unfold srcs
  rw [List.drop_eq_getElem_cons h, tab_cons]
  rfl
theorem part_len {m : Mis} {t : T} {i : Nat} (h : i < t.length) (q : Nat × T) (hq : q.2 ≠ []) : (part (t.drop i) (tab m (t.drop (i + 1))) q).length ≤ 501 := by
  unfold part
  split
  · rw [List.length_map, tab_rest h (List.length_pos_iff.mpr hq)]
    exact tab_len501 m t _
  · simp
theorem flatMap_le {α β : Type} {l : List α} {f : α → List β} {n : Nat} (h : ∀ a ∈ l, (f a).length ≤ n) : (l.flatMap f).length ≤ l.length * n := by
  induction l with
  | nil => simp
  | cons a r ih =>
    have h1 := h a (by simp)
    have h2 := ih fun b hb => h b (List.mem_cons_of_mem _ hb)
    rw [List.flatMap_cons, List.length_append, List.length_cons, Nat.succ_mul]
    omega
/-- behind a lock -/
theorem same_unlock {H H' : Hp} {d : Addr} {od : Obj} {u : HO} (h : H d = some u) (s : Same (upd H d (.frz od u)) H') : Same H (upd H' d u) := fun b o e => by
  by_cases hb : b = d
  · rw [hb, h] at e; rw [hb, upd_same]; exact e
  · rw [upd_ne hb]
    exact s b o (by rw [upd_ne hb]; exact e)
theorem upd_self {H : Hp} {a : Addr} {u : HO} (h : H a = some u) : upd H a u = H := by
  funext b
  by_cases hb : b = a
  · rw [hb, upd_same, h]
  · rw [upd_ne hb]
end K57
end part_K57I
section part_K57J
set_option Elab.async false
set_option linter.all false
set_option maxRecDepth 100000
set_option maxHeartbeats 4000000
/-! _law_sources -/
namespace K57
open PySem L2 Org
section
variable {P : Program} {w : World} {K : PySem.W.Frag} {mg : Str → Option Value} {base : Heap}
theorem kvM_get {m : Mis} {i : Nat} {k : Key} {v : V} (h : (kvM m)[i]? = some (k, v)) : ∃ q, m[i]? = some q ∧ k = (Sum.inr (SX.S [q.1]) : Key) ∧ v = .str (SX.S q.2) := by
  unfold kvM at h
  rw [List.getElem?_map] at h
  cases e : m[i]? with
  | none => rw [e] at h; cases h
  | some q => rw [e] at h; cases h; exact ⟨q, rfl, rfl, rfl⟩
theorem ixN_nat {n j : Nat} (hj : j < n) : ixN n (j : Int) = some j := by
  unfold ixN
  rw [if_pos (by omega), if_pos (by omega)]
  simp
theorem add_S (c : Nat) (t : Org.T) : SX.S [c] ++ SX.S t = SX.S (c :: t) := SX.S_cat _ _
def spSources : Sp := fun vs H Q _ => ∃ (d : Addr) (m : Mis) (t : List Nat), vs = [.ref d, .str (SX.S t)] ∧ H d = some (.dK (kvM m)) ∧ Good m ∧ m.length ≤ 100 ∧ (∀ q ∈ m, q.2.length ≤ 100) ∧ t.length ≤ 100 ∧
  ∀ (H' : Hp) (r : Addr), Same H H' → H' r = some (.lst (txts (srcs m t))) → Q (.ref r) H'
abbrev nSources : List Str := ["_law_images_so", "_law_text_so", "_law_letter", "_law_found", "_law_back", "_law_at", "_law_some", "_law_rest"]
theorem scSources : FnScope nSources ["_law_images_so", "_law_text_so"] (C8.fnScope sSources) := C8.fnScope_by (by decide +kernel)
/-- the rows stand from j on -/
def RowsAt (H : Hp) (m : Mis) (t : Org.T) (vs : List V) (n : Nat) : Prop := vs.length = t.length + 1 ∧ ∀ j, n ≤ j → j ≤ t.length → ∃ a, vs[j]? = some (.ref a) ∧ H a = some (.lst (txts ((tab m t).getD j [])))
theorem cal_sources {f : Addr} {fd : FuncData} (F : C8.Def K mg "_law_sources" sSources f fd) (df : fd.defaults = .none) (T : Txt K mg) : C8.Cal P w K mg base 1 "_law_sources" spSources [] := by
  refine C8.cal0 F (F.fn.binds df (ps := ["_law_images_so", "_law_text_so"]) fun _ _ _ _ _ _ us hl => match us, hl with | [_, _], _ => rfl) .nil scSources (fun vs H Q E h => ?_) (fun cdv A outer s H vs Q E hr h => ?_)
  · obtain ⟨d, m, t, rfl, _⟩ := h
    rfl
  · obtain ⟨d, m, t, rfl, hd, gm, hml, hil, htl, kk⟩ := h
    have hu := hu_of hr
    refine ⟨_, pss_cons (ps_set (i := 3) scSources.nd rfl (Or.inl rfl) (pe_op op_cat
        (pe_lc (own := [("_law_letter", 2)]) (g := gName 2) (tt := tYes) rfl scSources.nd (pi_str (pv 1)) (blkOk_by (N := nSources) (sc := C8.fnScope sSources) (by decide +kernel)) (fun _ _ _ _ _ => pg_name (i := 2) scSources.nd rfl (Or.inl rfl)) (fun _ _ _ _ _ => pts_nil) (fun _ _ _ _ _ => pe_lst pa_nil))
        (pe_lst (pa_cons (pe_lst (pa_cons pe_str pa_nil)) pa_nil))))
      (pss_cons (ps_for PassesOwn.never rfl (pi_range1 (by rfl) T.range (pa_cons (pe_callB call_len_str (by rfl) T.len PySem.boot_len (pa_cons (pv 1) pa_nil)) pa_nil)) (pg_name (i := 4) scSources.nd rfl (Or.inl rfl))
        (pss_cons (ps_par (i := 5) (j := 6) rfl scSources.nd rfl rfl (by decide) rfl rfl (pa_cons (pe_op op_sub (pe_op op_sub (pe_callB call_len_str (by rfl) T.len PySem.boot_len (pa_cons (pv 1) pa_nil)) pe_int) (pv 4)) (pa_cons (pe_lst pa_nil) pa_nil)) rfl)
        (pss_cons (ps_lock (ps_for PassesOwn.never rfl (pi_keys (pv 0)) (pg_name (i := 2) scSources.nd rfl (Or.inr rfl))
          (pss_one (ps_if (pt_cmpR op_eq (pe_slice sl_str (pv 1) (po_some (pv 5)) (po_some (pe_op op_add (pv 5) (pe_callB call_len_str (by rfl) T.len PySem.boot_len (pa_cons (pe_dget hu (pv 0) (pv 2) (fun _ _ => rfl)) pa_nil))))) (pe_dget hu (pv 0) (pv 2) (fun _ _ => rfl)) (nomark _))
            (pss_one (ps_set (i := 6) scSources.nd rfl (Or.inl rfl) (pe_op op_cat (pv 6)
              (pe_lc (own := [("_law_rest", 7)]) (g := gName 7) (tt := tYes) rfl scSources.nd (pi_list (pe_ix ix_list (pv 3) (pe_op op_add (pv 5) (pe_callB call_len_str (by rfl) T.len PySem.boot_len (pa_cons (pe_dget hu (pv 0) (pv 2) (fun _ _ => rfl)) pa_nil))) (fun _ _ => rfl))) (blkOk_by (N := nSources) (sc := C8.fnScope sSources) (by decide +kernel))
                (fun _ _ _ _ _ => pg_name (i := 7) scSources.nd rfl (Or.inl rfl)) (fun _ _ _ _ _ => pts_nil) (fun _ _ _ _ _ => pe_op op_add_str (pv 2) (pv 7)))))) pss_nil))))
        (pss_one (ps_asg (pe_slice sl_list (pv 6) po_none (po_some pe_int)) (pg_sub (pv 3) (pv 5) set_list))))))
      (pss_one (ps_ret (pe_ix ix_list (pv 3) pe_int (fun _ _ => rfl))))), ?_⟩
    refine ⟨_, rfl, _, rfl, ?_⟩
    intro D hD
    refine lc_n (n := t.length) (fun i H2 => Same H H2 ∧ ∃ acc, H2 D = some (.lst acc) ∧ acc.length = i) ⟨Same.new hD, _, upd_same, rfl⟩ (fun i H2 hi _ => by show i < _; rw [S_size]; exact hi) (fun H2 _ => by show _ ≤ t.length; rw [S_size]; exact Nat.le_refl _) ?_ ?_
    · rintro i H2 hi ⟨s2, acc, h2, hl2⟩ x H3 ⟨rfl, c, hx, rfl⟩
      refine ⟨rfl, Nat.zero_le _, fun p hp => ⟨acc, by rw [upd_ne (ne_of_none h2 hp)]; exact h2, by rw [hl2]; exact lt_line (m := 100) (by omega), fun b o e => ?_, _, upd_same, by simp [hl2]⟩⟩
      rw [upd_ne (ne_of_none e hD), upd_ne (ne_of_none (s2 b o e) hp)]
      exact s2 b o e
    · rintro H2 ⟨s2, acc, h2, hl2⟩
      refine ⟨le_line (m := 1) (Nat.le_refl _), fun A0 hA0 => ⟨le_line (m := 1) (Nat.le_refl _), fun B hB => ?_⟩⟩
      have nA : H2 A0 = none := hA0
      have nDA : D ≠ A0 := ne_of_none h2 hA0
      have nDB : D ≠ B := ne_of_none (show upd H2 A0 _ D = _ by rw [upd_ne nDA]; exact h2) hB
      have nAB : A0 ≠ B := ne_of_none (upd_same (H := H2)) hB
      refine ⟨D, B, _, _, rfl, rfl, by rw [upd_ne nDB, upd_ne nDA]; exact h2, upd_same, by simp only [hl2]; exact le_line (m := 200) (by show t.length + 1 ≤ _; omega), fun Fa hF => ?_⟩
      have nAF : A0 ≠ Fa := ne_of_none (show upd (upd H2 A0 _) B _ A0 = _ by rw [upd_ne nAB]; exact upd_same) hF
      have e0 : txts ((tab m t).getD t.length []) = [V.str (Str.ofString "")] := by rw [tab_at (Nat.le_refl _), List.drop_length]; rfl
      have s3 : Same H (upd (upd (upd H2 A0 (.lst [V.str (Str.ofString "")])) B (.lst [.ref A0])) Fa (.lst (acc ++ [.ref A0]))) := s2.trans (((Same.new nA).trans (Same.new hB)).trans (Same.new hF))
      refine ⟨_, rfl, _, rfl, by rw [SX.S_len]; exact le_line (m := 200) (by omega), _, rfl, by rw [SX.S_len]; omega, by rw [SX.S_len]; omega, ?_⟩
      rw [SX.S_len]
      refine for_n (n := t.length) (fun i σ H3 => ∃ (v2 v4 v5 v6 v7 : Option V) (vs : List V), σ = [some (.ref d), some (.str (SX.S t)), v2, some (.ref Fa), v4, v5, v6, v7] ∧ Same H H3 ∧ H Fa = none ∧ H3 Fa = some (.lst vs) ∧ RowsAt H3 m t vs (t.length - i))
        ⟨none, none, none, none, none, _, rfl, s3, ?_, upd_same, by simp [hl2], fun j j1 j2 => ?_⟩ (fun i σ H3 hi _ => hi) (fun σ H3 _ => Nat.le_refl _) ?_ ?_
      · exact (s2.trans ((Same.new nA).trans (Same.new hB))).free hF
      · have ej : j = t.length := by omega
        subst ej
        refine ⟨A0, ?_, ?_⟩
        · rw [List.getElem?_append_right (by omega), hl2]; simp
        · rw [upd_ne nAF, upd_ne nAB, upd_same, e0]
      · rintro i σ H3 hi ⟨v2, v4, v5, v6, v7, vs, rfl, sH, nF, hF3, hlen, rows⟩ x H4 ⟨rfl, rfl⟩
        obtain ⟨at_, hat⟩ : ∃ at_, at_ = t.length - 1 - i := ⟨_, rfl⟩
        have eat : ((t.length : Int) - 1 - (0 + (i : Int))) = (at_ : Int) := by omega
        have lat : at_ < t.length := by omega
        refine ⟨_, rfl, _, rfl, by rw [SX.S_len]; exact le_line (m := 200) (by omega), _, _, rfl, rfl, _, rfl, _, _, rfl, rfl, Nat.zero_le _, fun A1 hA1 => ⟨_, _, rfl, ?_⟩⟩
        have hd4 : H4 d = some (.dK (kvM m)) := sH _ _ hd
        have ndA : d ≠ A1 := ne_of_none hd4 hA1
        have nFA : Fa ≠ A1 := ne_of_none hF3 hA1
        obtain ⟨Hp0, hHp0⟩ : ∃ Hp0, Hp0 = upd H4 A1 (.lst []) := ⟨_, rfl⟩
        rw [← hHp0]
        have s40 : Same H4 Hp0 := by rw [hHp0]; exact Same.new hA1
        have hd0 : Hp0 d = some (.dK (kvM m)) := s40 _ _ hd4
        refine ⟨d, _, hd0, trivial, fun od => ?_⟩
        refine ⟨_, rfl, d, od, rfl, .inl ⟨kvM m, upd_same, ?_⟩⟩
        refine for_n (n := m.length) (fun k σ H5 => ∃ (v2 v7 : Option V) (S : Addr), σ = [some (.ref d), some (.str (SX.S t)), v2, some (.ref Fa), some (.int (0 + (i : Int))), some (.int at_), some (.ref S), v7] ∧ Same (upd Hp0 d (.frz od (.dK (kvM m)))) H5 ∧ H5 S = some (.lst (txts ((m.take k).flatMap (part (t.drop at_) (tab m (t.drop (at_ + 1))))))))
          ⟨v2, v7, A1, by show [some (V.ref d), some (V.str (SX.S t)), v2, some (V.ref Fa), some (V.int (0 + (i : Int))), some (V.int (((SX.S t).length : Int) - 1 - (0 + (i : Int)))), some (V.ref A1), v7] = _; rw [SX.S_len, eat], Same.refl _, by rw [upd_ne ndA.symm, hHp0, upd_same]; rfl⟩
          (fun k σ H5 hk ⟨_, _, _, _, s5, _⟩ => ⟨s5 _ _ upd_same, by rw [kvM_len]; exact hk⟩) (fun σ H5 ⟨_, _, _, _, s5, _⟩ => ⟨s5 _ _ upd_same, by rw [kvM_len]; exact Nat.le_refl _⟩) ?_ ?_
        · rintro k σ H5 hk ⟨v2, v7, S, rfl, s5, hS⟩ x H6 ⟨rfl, key, v, hkv, rfl⟩
          obtain ⟨q, hq, rfl, rfl⟩ := kvM_get hkv
          have hqm : q ∈ m := List.mem_of_getElem? hq
          have hl := lookup_of_mem gm.nd hqm
          have hv : valV (kvM m) (Sum.inr (SX.S [q.1]) : Key) = some (.str (SX.S q.2)) := by rw [kvM_val gm.nd, hl]; rfl
          have hdf : H6 d = some (.frz od (.dK (kvM m))) := s5 _ _ upd_same
          have hget : DGet H6 d (kV (Sum.inr (SX.S [q.1]) : Key)) (some (.str (SX.S q.2))) := .inl ⟨_, _, .inr ⟨_, hdf⟩, rfl, hv.symm⟩
          have hdrop : (t.drop at_).length = t.length - at_ := List.length_drop
          have hil1 := hil q hqm
          refine ⟨_, rfl, _, rfl, _, rfl, _, rfl, _, rfl, _, rfl, d, _, rfl, hget, _, rfl, by rw [SX.S_len]; exact le_line (m := 200) (by omega), _, _, rfl, rfl, _, rfl, _, rfl, by rw [SX.S_len]; exact le_line (m := 200) (by omega), ?_⟩
          refine ⟨_, rfl, _, rfl, d, _, rfl, hget, rfl, _, rfl, ?_⟩
          show if decide (V.str (cutS (SX.S t) (some (at_ : Int)) (some ((at_ : Int) + ((SX.S q.2).length : Int)))) = V.str (SX.S q.2)) = true then _ else _
          rw [SX.S_len, cutS_S _ _ _ (Nat.le_of_lt lat), ← pre_iff]
          refine ite2 (fun hpre => ?_) (fun hpre => ?_)
          · have hq0 : 1 ≤ q.2.length := List.length_pos_iff.mpr (gm.ne q hqm)
            have hle : at_ + q.2.length ≤ t.length := by
              have := (List.isPrefixOf_iff_prefix.mp hpre).length_le
              omega
            obtain ⟨a, ha, hca⟩ := rows (at_ + q.2.length) (by omega) hle
            have had : a ≠ d := ne_of hca hd4 (fun z => nomatch z)
            have hca6 : H6 a = some (.lst (txts ((tab m t).getD (at_ + q.2.length) []))) := s5 _ _ (by rw [upd_ne had]; exact s40 _ _ hca)
            have nFd : Fa ≠ d := ne_of hF3 hd4 (fun z => nomatch z)
            have hF6 : H6 Fa = some (.lst vs) := s5 _ _ (by rw [upd_ne nFd]; exact s40 _ _ hF3)
            obtain ⟨R, hR⟩ : ∃ R, R = (tab m t).getD (at_ + q.2.length) [] := ⟨_, rfl⟩
            have hR501 : R.length ≤ 501 := by rw [hR]; exact tab_len501 m t _
            rw [← hR] at hca6
            have hpart : part (t.drop at_) (tab m (t.drop (at_ + 1))) q = R.map (q.1 :: ·) := by
              unfold part
              rw [if_pos hpre, tab_rest lat hq0, ← hR]
            have hRl : ∀ s ∈ R, s.length ≤ t.length := fun s hs => by
              rw [hR] at hs
              have := (tab_sound gm t _ s hs).2.1
              rw [List.length_drop] at this
              omega
            refine ⟨_, rfl, _, rfl, _, rfl, _, rfl, _, rfl, d, _, rfl, hget, _, rfl, by rw [SX.S_len]; exact le_line (m := 200) (by omega), _, _, rfl, rfl, Fa, vs, _, .ref a, rfl, rfl, SqL.of hF6, ?_, a, rfl, ⟨_, SqL.of hca6⟩, ?_⟩
            · rw [SX.S_len, ← Int.natCast_add]
              exact atI_nat ha
            intro D2 hD2
            refine lc_n (n := R.length) (fun i2 H7 => Same H6 H7 ∧ H7 D2 = some (.lst (txts ((R.take i2).map (q.1 :: ·))))) ⟨Same.new hD2, by rw [upd_same]; rfl⟩ (fun i2 H7 hi2 ⟨s7, _⟩ => ?_) (fun H7 ⟨s7, _⟩ => ⟨_, SqL.of (s7 _ _ hca6), by simp [txts]⟩) ?_ ?_
            · exact ⟨_, .str (SX.S (R[i2])), SqL.of (s7 _ _ hca6), by simp [txts, hi2]⟩
            · rintro i2 H7 hi2 ⟨s7, h7⟩ x H8 ⟨rfl, hx⟩
              have hx := hx _ (SqL.of (s7 _ _ hca6))
              have ex : x = .str (SX.S (R[i2])) := by
                have : (txts R)[i2]? = some (.str (SX.S (R[i2]))) := by simp [txts, hi2]
                exact Option.some.inj (hx.symm.trans this)
              subst ex
              refine ⟨rfl, _, rfl, _, rfl, _, _, rfl, rfl, ?_, _, h7, ?_, ?_, ?_⟩
              · have := hRl _ (List.getElem_mem hi2)
                rw [SX.S_len, SX.S_len]
                exact le_line (m := 200) (by show 1 + _ ≤ _; omega)
              · rw [txts_len, List.length_map, List.length_take]; exact lt_line (m := 600) (by omega)
              · intro b o e
                rw [upd_ne (ne_of_none e hD2)]
                exact s7 b o e
              · rw [upd_same]
                congr 2
                rw [List.take_add_one, List.getElem?_eq_getElem hi2, List.map_append, txts_app]
                congr 1
                show [V.str (SX.S [q.1] ++ SX.S R[i2])] = [V.str (SX.S (q.1 :: R[i2]))]
                rw [add_S]
            · rintro H7 ⟨s7, h7⟩
              rw [List.take_length, ← hpart] at h7
              have hS7 := s7 _ _ hS
              refine ⟨S, D2, _, _, rfl, rfl, hS7, h7, ?_, fun S2 hS2 => ⟨_, _, S2, rfl, s5.trans (s7.trans (Same.new hS2)), ?_⟩⟩
              · have b1 := flatMap_le (l := m.take k) (f := part (t.drop at_) (tab m (t.drop (at_ + 1)))) (n := 501) fun q' hq' => part_len lat q' (gm.ne _ (List.mem_of_mem_take hq'))
                have b2 := part_len (m := m) lat q (gm.ne q hqm)
                have b3 : (m.take k).length * 501 ≤ 100 * 501 := Nat.mul_le_mul_right _ (by rw [List.length_take]; omega)
                rw [txts_len, txts_len]
                exact le_line (m := 60000) (by omega)
              · rw [upd_same, List.take_add_one, hq]
                simp [txts]
          · have hpart : part (t.drop at_) (tab m (t.drop (at_ + 1))) q = [] := by
              unfold part
              rw [if_neg hpre]
            refine ⟨_, _, S, rfl, s5, ?_⟩
            rw [hS, List.take_add_one, hq]
            simp [txts, hpart]
        · rintro σ H5 ⟨v2, v7, S, rfl, s5, hS⟩
          have hd5 : H5 d = some (.frz od (.dK (kvM m))) := s5 _ _ upd_same
          have sU : Same Hp0 (upd H5 d (.dK (kvM m))) := same_unlock hd0 s5
          have nSd : S ≠ d := ne_of hS hd5 (fun z => nomatch z)
          refine ⟨hd5, ?_⟩
          rw [List.take_length] at hS
          refine ⟨_, rfl, _, rfl, S, _, rfl, SqL.of (by rw [upd_ne nSd]; exact hS), fun p hp => ⟨_, rfl, _, rfl, Fa, vs, _, at_, rfl, rfl, ?_, ixN_nat (by omega), ?_⟩⟩
          · rw [upd_ne (ne_of_none (sU _ _ (s40 _ _ hF3)) hp)]
            exact sU _ _ (s40 _ _ hF3)
          have s4u : Same H4 (upd (upd H5 d (.dK (kvM m))) p (.lst (cutV (txts (m.flatMap (part (t.drop at_) (tab m (t.drop (at_ + 1)))))) none (some 501)))) := (s40.trans sU).trans (Same.new hp)
          have npF : p ≠ Fa := fun e => by rw [e, sU _ _ (s40 _ _ hF3)] at hp; cases hp
          refine ⟨_, _, _, _, _, _, rfl, fun b o e => ?_, nF, upd_same, by rw [List.length_set]; exact hlen, fun j j1 j2 => ?_⟩
          · have : b ≠ Fa := ne_of_none e nF
            rw [upd_ne this]
            exact s4u _ _ (sH _ _ e)
          · rcases Nat.lt_or_ge at_ j with hj | hj
            · obtain ⟨a, ha, hca⟩ := rows j (by omega) j2
              have naF : a ≠ Fa := fun e => by
                rw [e, hF3] at hca
                cases hca
                have := List.mem_of_getElem? ha
                obtain ⟨s, _, hs⟩ := List.mem_map.mp this
                cases hs
              exact ⟨a, by rw [List.getElem?_set_ne (by omega)]; exact ha, by rw [upd_ne naF]; exact s4u _ _ hca⟩
            · have ej : j = at_ := by omega
              subst ej
              refine ⟨p, by rw [List.getElem?_set_self (by omega)], ?_⟩
              rw [upd_ne npF, upd_same, tab_cell lat]
              show some (HO.lst (cutV _ none (some ((501 : Nat) : Int)))) = _
              rw [cut_to]
              unfold cell txts
              rw [List.map_take]
      · rintro σ H3 ⟨v2, v4, v5, v6, v7, vs, rfl, sH, nF, hF3, hlen, rows⟩
        obtain ⟨a, ha, hca⟩ := rows 0 (by omega) (by omega)
        refine ⟨_, rfl, Fa, vs, 0, _, rfl, rfl, SqL.of hF3, atI_nat (j := 0) ha, ?_⟩
        refine kk H3 a sH ?_
        rw [hca, tab_at (Nat.zero_le _)]; rfl
end
end K57
end part_K57J
section part_K57R
set_option Elab.async false
set_option linter.all false
set_option maxRecDepth 100000
set_option maxHeartbeats 4000000
/-! rules: sorted of texts, any number -/
namespace K57
open PySem L2 PySem.W PyProof.Rows
def leS (a b : Str) : Bool := decide (a.cps.toList ≤ b.cps.toList)
def rSortedN (K : PySem.W.Frag) : List V → Hp → VK → Prop := fun vs H Q => ∃ (a : Addr) (xs : List Str), vs = [V.ref a] ∧ SqL K H a (xs.map V.str) ∧
  ∀ p, H p = none → Q (.ref p) (upd H p (.lst ((xs.mergeSort leS).map V.str)))
def IsS (v : Value) (b : Str) : Prop := ∃ t, v = Value.str b t
theorem each_strs : ∀ {xs : List Str} {us : List Value}, Vals (xs.map V.str) us → EachIs IsS us xs
  | [], _, r => by
    have r' : Vals [] _ := r
    cases r'
    exact .nil
  | x :: xs, _, r => by
    have r' : Vals (.str x :: xs.map V.str) _ := r
    cases r' with
    | cons h t => exact .cons h (each_strs t)
theorem vals_each : ∀ {xs : List Str} {us : List Value}, EachIs IsS us xs → Vals (xs.map V.str) us
  | _, _, .nil => .nil
  | _, _, .cons h t => .cons h (vals_each t)
theorem cr_sortedN {X : Cx} (hu : X.A.units + 2 < cLine) : CallR X (.builtin "sorted") (rSortedN X.K) := by
  intro pins s σ H vs us Q I r h
  obtain ⟨a, xs, rfl, hs, q⟩ := h
  obtain ⟨its, rv, hl, hz⟩ := I.list hs
  rw [Vals.ref1 r]
  rw [List.length_map] at hz
  refine sorted_data (enc := PyData.str) (bs := xs) (R := IsS) hl.isList (each_strs rv) ((each_strs rv).mono fun v b ⟨t, e⟩ => ⟨[], by rw [e]; exact .str _ _⟩) (AllAlike.of fun _ _ => rfl) (Sortable.others fun b => ⟨nofun, nofun⟩) hz (fun b _ => hu) fun out ho eo => ?_
  obtain ⟨ep, he'⟩ := PyProof.Rows.sortedAll_at s.heap its out.toArray
  rw [dataLe_str fun b : Str => b] at eo
  have hlen : ((xs.mergeSort leS).map V.str).length ≤ sizeLine := by
    rw [List.length_map, List.length_mergeSort]; exact hz
  exact ⟨.ref _, upd H (s.heap.objs.size + 1) (.lst ((xs.mergeSort leS).map V.str)), I.laid (t' := s.toks) (fun _ _ => PyProof.Rows.sortedAll_old) (Nat.le_succ _) ⟨hlen, out, ep, vals_each eo, he'⟩, rfl, q _ (I.hok.fresh (Nat.le_succ _))⟩
end K57
end part_K57R
section part_K57K
set_option Elab.async false
set_option linter.all false
set_option maxRecDepth 100000
set_option maxHeartbeats 4000000
/-! dicts of texts to rows -/
namespace K57
open PySem L2 Org
def rowV (r : Row) : List V := (r.map fun i : Nat => (i : Int)).map V.int
theorem rowV_cons (i : Nat) (r : Row) : rowV (i :: r) = V.int i :: rowV r := rfl
theorem rowV_len (r : Row) : (rowV r).length = r.length := by simp [rowV]
theorem lexLt_row (a b : Row) : HT.lexLt (a.map fun i : Nat => (i : Int)) (b.map fun i : Nat => (i : Int)) = decide (a < b) := by
  induction a generalizing b with
  | nil => cases b with
    | nil => simp [HT.lexLt]
    | cons y q => simp [HT.lexLt]
  | cons x r ih => cases b with
    | nil => simp [HT.lexLt]
    | cons y q =>
      simp only [List.map_cons, HT.lexLt, ih q, List.cons_lt_cons_iff]
      rw [Bool.eq_iff_iff]
      by_cases e : x = y
      · subst e; simp
      · have e' : ¬ ((x : Int) = (y : Int)) := by omega
        simp [e, e']
def FR (K : PySem.W.Frag) (H : Hp) (kv : Key × V) (p : Org.T × Row) : Prop := kv.1 = (Sum.inr (SX.S p.1) : Key) ∧ ∃ b, kv.2 = .ref b ∧ SqT K H b (rowV p.2)
abbrev FD (K : PySem.W.Frag) (H : Hp) (kvs : List (Key × V)) (D : Found) : Prop := Paired (FR K H) kvs D
section
variable {K : PySem.W.Frag} {H H' : Hp}
theorem paired_len {α β : Type} {G : α → β → Prop} {xs : List α} {ys : List β} (h : Paired G xs ys) : xs.length = ys.length := by
  induction h with
  | nil => rfl
  | cons g t ih => simp [ih]
theorem paired_get {α β : Type} {G : α → β → Prop} {xs : List α} {ys : List β} (h : Paired G xs ys) : ∀ {i : Nat} {y : β}, ys[i]? = some y → ∃ x, xs[i]? = some x ∧ G x y := by
  induction h with
  | nil => intro i y e; simp at e
  | @cons a b as bs g t ih =>
    intro i y e
    cases i with
    | zero => simp at e; subst e; exact ⟨a, rfl, g⟩
    | succ i => simp at e; obtain ⟨x, hx, q⟩ := ih e; exact ⟨x, by simpa using hx, q⟩
theorem paired_append {α β : Type} {G : α → β → Prop} {xs xs' : List α} {ys ys' : List β} (h : Paired G xs ys) (h' : Paired G xs' ys') : Paired G (xs ++ xs') (ys ++ ys') := by
  induction h with
  | nil => exact h'
  | cons g t ih => exact .cons g ih
theorem FD.keys {kvs : List (Key × V)} {D : Found} (h : FD K H kvs D) : kvs.map (fun kv => kV kv.1) = txts (D.map (·.1)) := by
  induction h with
  | nil => rfl
  | @cons a b as bs g t ih =>
    show kV a.1 :: _ = V.str (SX.S b.1) :: _
    rw [g.1]
    congr 1
theorem FD.mono {kvs : List (Key × V)} {D : Found} (h : FD K H kvs D) (m : ∀ b xs, SqT K H b xs → SqT K H' b xs) : FD K H' kvs D :=
  Paired.mapP h fun kv p ⟨e, b, e2, q⟩ => ⟨e, b, e2, m b _ q⟩
theorem FD.val {kvs : List (Key × V)} {D : Found} (h : FD K H kvs D) (x : Org.T) :
    (D.lookup x = none ∧ valV kvs (Sum.inr (SX.S x) : Key) = none ∧ has D x = false) ∨ ∃ r b, D.lookup x = some r ∧ valV kvs (Sum.inr (SX.S x) : Key) = some (.ref b) ∧ SqT K H b (rowV r) ∧ has D x = true := by
  induction h with
  | nil => exact .inl ⟨rfl, rfl, rfl⟩
  | @cons kv p as bs g t ih =>
    obtain ⟨e, b, e2, q⟩ := g
    obtain ⟨y, r⟩ := p
    by_cases hx : x = y
    · subst hx
      refine .inr ⟨r, b, by simp [List.lookup], ?_, q, by simp [has]⟩
      rw [valV_pos e, e2]
    · have hk : ¬ kv.1 = (Sum.inr (SX.S x) : Key) := fun z => hx (SX.S_inj (Sum.inr.inj (e.symm.trans z))).symm
      have hb : (x == y) = false := by simpa using hx
      have hh : has ((y, r) :: bs) x = has bs x := by unfold has; simp [List.contains_cons, hx]
      have hl : List.lookup x ((y, r) :: bs) = List.lookup x bs := by simp [List.lookup, hb]
      rw [valV_neg hk, hh, hl]
      exact ih
theorem FD.put {kvs : List (Key × V)} {D : Found} (h : FD K H kvs D) {x : Org.T} {r : Row} {b : Addr} (q : SqT K H b (rowV r)) : FD K H (putK kvs (Sum.inr (SX.S x) : Key) (.ref b)) (Org.put D x r) := by
  have hhas : ((kvs.any fun kv => decide (kv.1 = (Sum.inr (SX.S x) : Key))) = true) ↔ has D x = true := by
    rw [valV_any]
    rcases h.val x with ⟨_, e, e2⟩ | ⟨_, _, _, e, _, e2⟩ <;> rw [e, e2] <;> simp
  unfold putK Org.put
  by_cases c : has D x = true
  · rw [if_pos c, if_pos (hhas.mpr c)]
    clear hhas c
    induction h with
    | nil => exact .nil
    | @cons kv p as bs g t ih =>
      rw [List.map_cons, List.map_cons]
      refine .cons ?_ ih
      obtain ⟨e, b', e2, q'⟩ := g
      by_cases hx : p.1 = x
      · rw [if_pos hx, if_pos (by rw [e, hx])]
        exact ⟨by rw [e], b, rfl, q⟩
      · rw [if_neg hx, if_neg (fun z => hx (SX.S_inj (Sum.inr.inj (e.symm.trans z))))]
        exact ⟨e, b', e2, q'⟩
  · rw [if_neg c, if_neg (fun z => c (hhas.mp z))]
    exact paired_append h (.cons ⟨rfl, b, rfl, q⟩ .nil)
theorem put_len (D : Found) (x : Org.T) (r : Row) : (Org.put D x r).length ≤ D.length + 1 := by
  unfold Org.put
  split
  · rw [List.length_map]; omega
  · simp
theorem updD_len (G : Found) (row : Row) (D : Found) (x : Org.T) : (updD G row D x).length ≤ D.length + 1 := by
  unfold updD
  split
  · exact put_len D x row
  · omega
theorem jobF_len (G : Found) (row : Row) (xs : List Org.T) : ∀ D : Found, (xs.foldl (updD G row) D).length ≤ D.length + xs.length := by
  induction xs with
  | nil => intro D; simp
  | cons x r ih =>
    intro D
    have h1 := ih (updD G row D x)
    have h2 := updD_len G row D x
    rw [List.foldl_cons, List.length_cons]
    omega
theorem num_len (ms : List Mis) : ∀ k, (num k ms).length = ms.length := by
  induction ms with
  | nil => intro k; rfl
  | cons m r ih => intro k; simp [num, ih]
theorem num_get (ms : List Mis) : ∀ (k i : Nat) (m : Mis), ms[i]? = some m → (num k ms)[i]? = some (k + i, m) := by
  induction ms with
  | nil => intro k i m h; simp at h
  | cons a r ih =>
    intro k i m h
    cases i with
    | zero => simp at h; subst h; rfl
    | succ i =>
      simp at h
      have := ih (k + 1) i m h
      show (num (k + 1) r)[i]? = _
      rw [this]
      congr 2
      omega
theorem nearF_len (G : Found) (n : Org.T) (ps : List (Nat × Mis)) : ∀ D : Found, (ps.foldl (fun D p => jobL G D n p) D).length ≤ D.length + ps.length * 501 := by
  induction ps with
  | nil => intro D; simp
  | cons p r ih =>
    intro D
    have h1 := ih (jobL G D n p)
    have h2 : (jobL G D n p).length ≤ D.length + (srcs p.2 n).length := jobF_len G _ _ D
    have h3 := srcs_len p.2 n
    rw [List.foldl_cons, List.length_cons, Nat.succ_mul]
    omega
theorem levF_len (ms : List Mis) (G : Found) (ns : List Org.T) : ∀ D : Found, (ns.foldl (nearL ms G) D).length ≤ D.length + ns.length * (ms.length * 501) := by
  induction ns with
  | nil => intro D; simp
  | cons n r ih =>
    intro D
    have h1 := ih (nearL ms G D n)
    have h2 : (nearL ms G D n).length ≤ D.length + (num 0 ms).length * 501 := nearF_len G n _ D
    rw [num_len] at h2
    rw [List.foldl_cons, List.length_cons, Nat.succ_mul]
    omega
/-- tuples stay while only d, no tuple, is written -/
theorem SqT.keepD {d : Addr} {b : Addr} {xs : List V} {u : HO} (k : Keep d H H') (hd : H d = some u) (hu : (∀ ys, u ≠ .tup ys) ∧ ∀ o ys, u ≠ .frz o (.tup ys)) (h : SqT K H b xs) : SqT K H' b xs := by
  rcases h with h | h
  · refine .inl ?_
    rcases h with h | ⟨o, h⟩
    · exact .inl (k _ _ h fun e => by rw [e, hd] at h; exact hu.1 _ (Option.some.inj h))
    · exact .inr ⟨o, k _ _ h fun e => by rw [e, hd] at h; exact hu.2 _ _ (Option.some.inj h)⟩
  · exact .inr h
theorem SqT.same {b : Addr} {xs : List V} (k : Same H H') (h : SqT K H b xs) : SqT K H' b xs := by
  rcases h with h | h
  · refine .inl ?_
    rcases h with h | ⟨o, h⟩
    · exact .inl (k _ _ h)
    · exact .inr ⟨o, k _ _ h⟩
  · exact .inr h
end
end K57
end part_K57K
section part_K57M
set_option Elab.async false
set_option linter.all false
set_option maxRecDepth 100000
set_option maxHeartbeats 4000000
/-! _law_origins -/
namespace K57
open PySem L2 Org
section
variable {P : Program} {w : World} {K : PySem.W.Frag} {mg : Str → Option Value} {base : Heap}
theorem pe_tupleOfK {X : Cx} {K' : PySem.W.Frag} (hK : X.K = K') {a : Expr} {ta : TE} {p pos : Pos} (hg : Gl X "tuple") (hm : X.mg "tuple" = none) (ha : PE X a ta) (na : starEach [a] X.env = (false, eval a X.env) :: starEach [] X.env := by rfl) :
    PE X (.Call (.Name "tuple" p) [a] [] pos) (tThen ta (kTup K')) := hK ▸ pe_tupleOf hg hm ha na
theorem ix_listK {X : Cx} {K' : PySem.W.Frag} (hK : X.K = K') : IxR X (rIxL K') := hK ▸ ix_list
theorem keepDk {K : PySem.W.Frag} {H H' : Hp} {d : Addr} {b : Addr} {xs : List V} {kvs : List (Key × V)} (k : Keep d H H') (hd : H d = some (.dK kvs)) (h : SqT K H b xs) : SqT K H' b xs := by
  rcases h with h | h
  · refine .inl ?_
    rcases h with h | ⟨o, h⟩
    · exact .inl (k _ _ h fun e => by rw [e, hd] at h; cases h)
    · exact .inr ⟨o, k _ _ h fun e => by rw [e, hd] at h; cases h⟩
  · exact .inr h
theorem keepLk {K : PySem.W.Frag} {H H' : Hp} {d : Addr} {b : Addr} {xs ys : List V} (k : Keep d H H') (hd : H d = some (.lst ys)) (h : SqT K H b xs) : SqT K H' b xs := by
  rcases h with h | h
  · refine .inl ?_
    rcases h with h | ⟨o, h⟩
    · exact .inl (k _ _ h fun e => by rw [e, hd] at h; cases h)
    · exact .inr ⟨o, k _ _ h fun e => by rw [e, hd] at h; cases h⟩
  · exact .inr h
theorem numL_dig {n : Nat} (h : 1000 ≤ n) (h2 : n < 10000) : TL.numL n = dig n := by
  rw [TL.numL_step (by omega), TL.numL_step (by omega), TL.numL_step (by omega), TL.numL_lt (by omega)]
  unfold dig
  have e1 : n / 10 / 10 / 10 = n / 1000 := by omega
  have e2 : n / 10 / 10 = n / 100 := by omega
  rw [e1, e2]
  rfl
theorem num_dig {n : Nat} (h : n < 9000) : Str.ofString (toString ((1000 : Int) + (n : Int))) = SX.S (dig (1000 + n)) := by
  rw [show ((1000 : Int) + (n : Int)) = ((1000 + n : Nat) : Int) by omega, SX.num_S, numL_dig (by omega) (by omega)]
theorem num_one {n : Nat} (h : n < 10) : Str.ofString (toString ((n : Nat) : Int)) = SX.S [48 + n] := by
  rw [SX.num_S, TL.numL_lt h]
theorem dig_len (n : Nat) : (dig n).length = 4 := rfl
theorem enc_is (p : Org.T × Row) (h1 : p.1.length < 9000) (h2 : p.2.length < 9000) :
    Str.ofString (toString ((1000 : Int) + ((SX.S (p.2.map (48 + ·))).length : Int))) ++ SX.S (p.2.map (48 + ·)) ++ Str.ofString " " ++ Str.ofString (toString ((1000 : Int) + ((SX.S p.1).length : Int))) ++ SX.S p.1 = SX.S (enc p) := by
  have e : Str.ofString " " = SX.S [32] := rfl
  rw [SX.S_len, SX.S_len, List.length_map, num_dig h1, num_dig h2, e, SX.S_cat, SX.S_cat, SX.S_cat, SX.S_cat]
  unfold enc encA encB
  simp
theorem enc_sizes (p : Org.T × Row) (h1 : p.1.length < 9000) (h2 : p.2.length < 9000) :
    ((Str.ofString (toString ((1000 : Int) + ((SX.S (p.2.map (48 + ·))).length : Int)))).length + (SX.S (p.2.map (48 + ·))).length ≤ sizeLine) ∧
    ((Str.ofString (toString ((1000 : Int) + ((SX.S (p.2.map (48 + ·))).length : Int))) ++ SX.S (p.2.map (48 + ·))).length + (Str.ofString " ").length ≤ sizeLine) ∧
    ((Str.ofString (toString ((1000 : Int) + ((SX.S (p.2.map (48 + ·))).length : Int))) ++ SX.S (p.2.map (48 + ·)) ++ Str.ofString " ").length + (Str.ofString (toString ((1000 : Int) + ((SX.S p.1).length : Int)))).length ≤ sizeLine) ∧
    ((Str.ofString (toString ((1000 : Int) + ((SX.S (p.2.map (48 + ·))).length : Int))) ++ SX.S (p.2.map (48 + ·)) ++ Str.ofString " " ++ Str.ofString (toString ((1000 : Int) + ((SX.S p.1).length : Int)))).length + (SX.S p.1).length ≤ sizeLine) := by
  have e : Str.ofString " " = SX.S [32] := rfl
  rw [SX.S_len (p.2.map (48 + ·)), SX.S_len p.1, List.length_map, num_dig h1, num_dig h2, e, SX.S_cat, SX.S_cat, SX.S_cat]
  simp only [SX.S_len, List.length_append, List.length_map, dig_len, List.length_cons, List.length_nil]
  refine ⟨?_, ?_, ?_, ?_⟩ <;> exact le_line (m := 40000) (by omega)
theorem split_enc (p : Org.T × Row) (h : ∀ c ∈ p.1, c ≠ 32) (h1 : p.1.length < 9000) (h2 : p.2.length < 9000) : Txt.split (SX.S (enc p)) (Str.ofString " ") = [SX.S (encA p), SX.S (encB p)] := by
  have e : Str.ofString " " = SX.S [32] := rfl
  have hd : ∀ n, n < 10000 → 32 ∉ dig n := fun n hn hm => by
    unfold dig at hm
    simp only [List.mem_cons, List.not_mem_nil, or_false] at hm
    omega
  have hA : 32 ∉ encA p := fun hm => by
    rcases List.mem_append.mp hm with hm | hm
    · exact hd _ (by omega) hm
    · obtain ⟨i, _, hi⟩ := List.mem_map.mp hm; omega
  have hB : 32 ∉ encB p := fun hm => by
    rcases List.mem_append.mp hm with hm | hm
    · exact hd _ (by omega) hm
    · exact h 32 hm rfl
  have ej : enc p = TL.joinL [32] [encA p, encB p] := by
    show encA p ++ 32 :: encB p = encA p ++ ([32] ++ encB p)
    simp
  rw [e, SX.split_S (by simp) (by decide), ej, SX.spl_join (by simp) (by
    intro q hq
    rcases List.mem_cons.mp hq with rfl | hq
    · exact hA
    · rw [List.mem_singleton.mp hq]; exact hB)]
  rfl
theorem cut4 (a : List Nat) : cutS (SX.S a) (some 4) none = SX.S (a.drop 4) := by
  rw [C8.cutS_slice, SX.slice_from (by decide)]
  rfl
theorem int_one {c : Nat} (h : c < 10) : intText? (SX.S [48 + c]) = some ((c : Nat) : Int) := by
  have hv := TL.numL_val c
  rw [TL.numL_lt h] at hv
  rw [SX.int_S (by simp; omega) (by simp) (by simp), hv]
theorem log_small {i : Int} (h0 : 0 ≤ i) (h : i < 1920) : i.natAbs.log2 < 1920 := by
  have := Nat.log2_le_self i.natAbs
  omega
theorem paired_keys_at {K : PySem.W.Frag} {H : Hp} {kvs : List (Key × V)} {G : Found} (fd : FD K H kvs G) {u : Nat} {p : Org.T × Row} (h : G[u]? = some p) {k : Key} {v : V} (hk : kvs[u]? = some (k, v)) : k = (Sum.inr (SX.S p.1) : Key) := by
  obtain ⟨x, hx, e, _⟩ := paired_get fd h
  rw [hk] at hx
  cases hx
  exact e
/-- the rows told: a text and the tuple of its indexes -/
def RowOut (H : Hp) (q : Addr) (p : Org.T × Row) : Prop := ∃ b, H q = some (.tup [.ref b, .str (SX.S p.1)]) ∧ H b = some (.tup (rowV p.2))
structure Tabled (H : Hp) (ds : List Addr) (ms : List Mis) : Prop where
  dic : Paired (fun d m => H d = some (.dK (kvM m))) ds ms
  good : ∀ m ∈ ms, Good m
  keys : ∀ m ∈ ms, m.length ≤ 100
  imgs : ∀ m ∈ ms, ∀ q ∈ m, q.2.length ≤ 100
  len : ms.length ≤ 4
def spLOrigins : Sp := fun vs H Q _ => ∃ (r : Addr) (ds : List Addr) (ms : List Mis) (t : List Nat) (al : Nat → Prop), vs = [.ref r, .str (SX.S t)] ∧ H r = some (.lst (ds.map V.ref)) ∧ Tabled H ds ms ∧ t.length ≤ 100 ∧ (∀ c ∈ t, al c) ∧
  (∀ m ∈ ms, ∀ c ∈ m.map (·.1), al c) ∧ (∀ c, al c → c ≠ 32) ∧ (∀ H', origL ms t = none → Same H H' → Q .non H') ∧
  ∀ (H' : Hp) (F G : Found) (l : Addr) (qs : List Addr), origL ms t = some G → Ends ms al t.length F G → Same H H' → H' l = some (.lst (qs.map V.ref)) → Paired (RowOut H') qs F → Q (.ref l) H'
abbrev nLOrigins : List Str := ["_law_rules", "_law_text_so", "_law_found", "_law_level", "_law_turn", "_law_fresh", "_law_near", "_law_index", "_law_images_so", "_law_row_so", "_law_one", "_law_keys", "_law_figures", "_law_rows", "_law_key", "_law_sign"]
theorem scLOrigins : FnScope nLOrigins ["_law_rules", "_law_text_so"] (C8.fnScope sLOrigins) := C8.fnScope_by (by decide +kernel)
theorem cal_lorigins {f : Addr} {fd : FuncData} (F : C8.Def K mg "_law_origins" sLOrigins f fd) (df : fd.defaults = .none) (T : Txt K mg) (c1 : C8.Cal P w K mg base 1 "_law_sources" spSources []) : C8.Cal P w K mg base 2 "_law_origins" spLOrigins [] := by
  refine C8.cal0 F (F.fn.binds df (ps := ["_law_rules", "_law_text_so"]) fun _ _ _ _ _ _ us hl => match us, hl with | [_, _], _ => rfl) .nil scLOrigins (fun vs H Q E h => ?_) (fun cdv A outer s H vs Q E hr h => ?_)
  · obtain ⟨r, ds, ms, t, al, rfl, _⟩ := h
    rfl
  · obtain ⟨r, ds, ms, t, al, rfl, hr0, Tb, htl, ht, hal, h32, kN, kS⟩ := h
    have hu := hu_of hr
    refine ⟨_, pss_cons (ps_par (i := 2) (j := 3) rfl scLOrigins.nd rfl rfl (by decide) rfl rfl (pa_cons (pe_disp (pps_cons (pv 1) (pe_tup pa_nil) pps_nil) rfl rfl (by simp) (by simp)) (pa_cons (pe_lst (pa_cons (pv 1) pa_nil)) pa_nil)) rfl)
      (C8.pss_cut (ps_for PassesOwn.never rfl (pi_range1 (by rfl) T.range (pa_cons pe_int pa_nil)) (pg_name (i := 4) scLOrigins.nd rfl (Or.inl rfl))
        (pss_cons (ps_set (i := 5) scLOrigins.nd rfl (Or.inl rfl) pe_dnewK)
        (C8.pss_cut (ps_for PassesOwn.never rfl (pi_list (pv 3)) (pg_name (i := 6) scLOrigins.nd rfl (Or.inl rfl))
          (pss_one (ps_for PassesOwn.never rfl (pi_enum (by rfl) T.enum (pa_cons (pv 0) pa_nil)) (pg_tup rfl (pgs_cons (pg_name (i := 7) scLOrigins.nd rfl (Or.inl rfl)) (pgs_cons (pg_name (i := 8) scLOrigins.nd rfl (Or.inl rfl)) pgs_nil)))
            (C8.pss_cut (ps_set (i := 9) scLOrigins.nd rfl (Or.inl rfl) (pe_op op_catT (pe_tup (pa_cons (pv 7) pa_nil)) (pe_dget hu (pv 2) (pv 6) (fun _ _ => rfl))))
            (pss_one (ps_for PassesOwn.never rfl (pi_list (C8.pe_c c1 hr (by decide) (by rfl) (pa_cons (pv 8) (pa_cons (pv 6) pa_nil)))) (pg_name (i := 10) scLOrigins.nd rfl (Or.inl rfl))
              (pss_one (ps_if (PW.pt (pw_and (pt_cmp (pc_dnotin hu (pv 10) (pv 2)) (by rfl)) (pw_and1 (PW.pt (pw_or (pt_cmp (pc_dnotin hu (pv 10) (pv 5)) (by rfl)) (pw_or1 (pt_cmpR (op_ltT hr.units0) (pv 9) (pe_dget hu (pv 5) (pv 10) (fun _ _ => rfl)) (nomark _))))))))
                (pss_one (ps_dput hu (pv 5) (pv 10) (pv 9) rfl)) pss_nil))))))))
        (pss_cons (ps_if (pt_cmpR op_gt (pe_op op_add (pe_callB call_lenD (by rfl) T.len PySem.boot_len (pa_cons (pv 2) pa_nil)) (pe_callB call_lenD (by rfl) T.len PySem.boot_len (pa_cons (pv 5) pa_nil))) pe_int (nomark _)) (pss_one (ps_ret pe_non)) pss_nil)
        (pss_cons (ps_set (i := 3) scLOrigins.nd rfl (Or.inl rfl) (pe_callTy (call_list_dK rfl) (by rfl) T.list (by decide +kernel) (pa_cons (pv 5) pa_nil)))
        (pss_one (ps_for PassesOwn.never rfl (pi_list (pv 3)) (pg_name (i := 10) scLOrigins.nd rfl (Or.inl rfl))
          (pss_one (ps_dput hu (pv 2) (pv 10) (pe_dget hu (pv 5) (pv 10) (fun _ _ => rfl)) rfl)))))))))
      (pss_cons (ps_set (i := 11) scLOrigins.nd rfl (Or.inl rfl) (pe_lst pa_nil))
      (C8.pss_cut (ps_lock (ps_for PassesOwn.never rfl (pi_keys (pv 2)) (pg_name (i := 10) scLOrigins.nd rfl (Or.inl rfl))
        (pss_cons (ps_set (i := 12) scLOrigins.nd rfl (Or.inl rfl) (pe_join pe_str (pe_lc (own := [("_law_index", 7)]) (g := gName 7) (tt := tYes) rfl scLOrigins.nd (pi_tup (pe_dget hu (pv 2) (pv 10) (fun _ _ => rfl))) (blkOk_by (N := nLOrigins) (sc := C8.fnScope sLOrigins) (by decide +kernel))
            (fun _ _ _ _ _ => pg_name (i := 7) scLOrigins.nd rfl (Or.inl rfl)) (fun _ _ _ _ _ => pts_nil) (fun _ _ _ _ _ => pe_callTy call_str_int (by rfl) T.str (by decide +kernel) (pa_cons (pv 7) pa_nil)))))
        (pss_one (ps_expr (pe_bm PySem.F.plainAttrs_list PySem.F.slot_list_append PySem.F.type_list_append mt_append (pv 11)
          (pa_cons (pe_op op_add_str (pe_op op_add_str (pe_op op_add_str (pe_op op_add_str (pe_callTy call_str_int (by rfl) T.str (by decide +kernel) (pa_cons (pe_op op_add pe_int (pe_callB call_len_str (by rfl) T.len PySem.boot_len (pa_cons (pv 12) pa_nil))) pa_nil)) (pv 12)) pe_str)
            (pe_callTy call_str_int (by rfl) T.str (by decide +kernel) (pa_cons (pe_op op_add pe_int (pe_callB call_len_str (by rfl) T.len PySem.boot_len (pa_cons (pv 10) pa_nil))) pa_nil))) (pv 10)) pa_nil)))))))
      (pss_cons (ps_setLc (i := 13) (own := [("_law_key", 14)]) (g := gName 14) (tt := tYes) rfl scLOrigins.nd rfl rfl (sw_true rfl rfl rfl (by decide +kernel))
          (pi_list (pe_callB (cr_sortedN (Nat.lt_of_le_of_lt (Nat.add_le_add_left (by decide) _) hr.units)) (by rfl) T.sorted PyProof.Rows.boot_sorted (pa_cons (pe_lc (own := [("_law_key", 14)]) (g := gName 14) (tt := tYes) rfl scLOrigins.nd (pi_list (pv 11)) (blkOk_by (N := nLOrigins) (sc := C8.fnScope sLOrigins) (by decide +kernel))
            (fun _ _ _ _ _ => pg_name (i := 14) scLOrigins.nd rfl (Or.inl rfl)) (fun _ _ _ _ _ => pts_nil) (fun _ _ _ _ _ => pe_callTy SkE.call_str_str (by rfl) T.str (by decide +kernel) (pa_cons (pv 14) pa_nil))) pa_nil)))
          (blkOk_by (N := nLOrigins) (sc := C8.fnScope sLOrigins) (by decide +kernel)) (fun _ _ _ _ _ => pg_name (i := 14) scLOrigins.nd rfl (Or.inl rfl)) (fun _ _ _ _ _ => pts_nil) (fun _ _ _ _ _ => pe_split (pv 14) pe_str))
      (pss_one (ps_ret (pe_lc (own := [("_law_row_so", 9)]) (g := gName 9) (tt := tYes) rfl scLOrigins.nd (pi_list (pv 13)) (blkOk_by (N := nLOrigins) (sc := C8.fnScope sLOrigins) (by decide +kernel))
            (fun _ _ _ _ _ => pg_name (i := 9) scLOrigins.nd rfl (Or.inl rfl)) (fun _ _ _ _ _ => pts_nil)
            (fun _ _ _ _ _ => pe_tup (pa_cons (pe_tupleOfK (K' := K) rfl (by rfl) T.tuple (pe_lc (own := [("_law_sign", 15)]) (g := gName 15) (tt := tYes) rfl scLOrigins.nd (pi_str (pe_slice sl_str (pe_ix (ix_listK (K' := K) rfl) (pv 9) pe_int (fun _ _ => rfl)) (po_some pe_int) po_none)) (blkOk_by (N := nLOrigins) (sc := { kind := .function, names := [(".0", .local), ("_law_row_so", .local), ("tuple", .globalImplicit)], isGenerator := false, isCoroutine := false }) (by decide +kernel))
                (fun _ _ _ _ _ => pg_name (i := 15) scLOrigins.nd rfl (Or.inl rfl)) (fun _ _ _ _ _ => pts_nil) (fun _ _ _ _ _ => pe_callTy call_int_str (by rfl) T.int (by decide +kernel) (pa_cons (pv 15) pa_nil))))
              (pa_cons (pe_slice sl_str (pe_ix (ix_listK (K' := K) rfl) (pv 9) pe_int (fun _ _ => rfl)) (po_some pe_int) po_none) pa_nil)))))))))), ?_⟩
    intro d1 hd1
    refine ⟨_, rfl, Nat.zero_le _, fun b0 hb0 => ⟨by rw [upd_ne (ne_of_none upd_same hb0), upd_same], [((Sum.inr (SX.S t) : Key), .ref b0)], rfl, by simp, _, rfl, le_line (m := 1) (Nat.le_refl _), fun l1 hl1 => ⟨_, _, rfl, ?_⟩⟩⟩
    have hb0' : H b0 = none := by
      have : b0 ≠ d1 := fun e => by rw [e, upd_same] at hb0; cases hb0
      rwa [upd_ne this] at hb0
    have n0d : b0 ≠ d1 := fun e => by rw [e, upd_same] at hb0; cases hb0
    obtain ⟨HS, hHS⟩ : ∃ HS, HS = upd (upd (upd (upd H d1 (.dK [])) b0 (.tup [])) d1 (.dK (mergeK [] [((Sum.inr (SX.S t) : Key), V.ref b0)]))) l1 (.lst [.str (SX.S t)]) := ⟨_, rfl⟩
    have hl1' : l1 ≠ d1 := fun e => by rw [e, upd_same] at hl1; cases hl1
    have hl1b : l1 ≠ b0 := fun e => by rw [e, upd_ne n0d, upd_same] at hl1; cases hl1
    have hd1S : HS d1 = some (.dK [((Sum.inr (SX.S t) : Key), V.ref b0)]) := by rw [hHS, upd_ne hl1'.symm, upd_same]; rfl
    have hb0S : HS b0 = some (.tup (rowV [])) := by rw [hHS, upd_ne hl1b.symm, upd_ne n0d, upd_same]; rfl
    have hl1S : HS l1 = some (.lst (txts [t])) := by rw [hHS, upd_same]; rfl
    have sS : Same H HS := fun b o e => by
      have e1 : b ≠ d1 := ne_of_none e hd1
      have e2 : b ≠ b0 := ne_of_none e hb0'
      have e3 : b ≠ l1 := fun z => by rw [z] at e e1 e2; rw [upd_ne e1, upd_ne e2, upd_ne e1, e] at hl1; cases hl1
      rw [hHS, upd_ne e3, upd_ne e1, upd_ne e2, upd_ne e1]; exact e
    refine ⟨fun σ H' => ∃ (l : Addr) (kvF : List (Key × V)) (G : Found) (Lv : List Org.T) (v4 v5 v6 v7 v8 v9 v10 : Option V), σ = [some (.ref r), some (.str (SX.S t)), some (.ref d1), some (.ref l), v4, v5, v6, v7, v8, v9, v10, none, none, none, none, none] ∧
        H' d1 = some (.dK kvF) ∧ FD K H' kvF G ∧ Same H H' ∧ origL ms t = some G, ?_, ?_⟩
    · show tFor _ _ _ _ _ _
      rw [← hHS]
      refine ⟨600, rfl, by decide, by decide, ?_⟩
      refine for_n (n := 600) (fun i σ H' => ∃ (l : Addr) (kvF : List (Key × V)) (G : Found) (Lv : List Org.T) (v4 v5 v6 v7 v8 v9 v10 : Option V), σ = [some (.ref r), some (.str (SX.S t)), some (.ref d1), some (.ref l), v4, v5, v6, v7, v8, v9, v10, none, none, none, none, none] ∧
          H' d1 = some (.dK kvF) ∧ FD K H' kvF G ∧ Same H H' ∧ H' l = some (.lst (txts Lv)) ∧ (∀ p ∈ G, p.2.length ≤ i) ∧ (∀ n ∈ Lv, has G n = true ∧ n.length ≤ 100) ∧ Lv.length ≤ 500 ∧ G.length ≤ 500 ∧ runL ms (600 - i) (G, Lv) = origL ms t)
        ⟨l1, _, [(t, [])], [t], none, none, none, none, none, none, none, rfl, hd1S, .cons ⟨rfl, b0, rfl, SqT.of hb0S⟩ .nil, sS, hl1S, by simp, by simp [has, htl], by simp, by simp, rfl⟩ (fun i σ H' hi _ => hi) (fun σ H' _ => Nat.le_refl _) ?_ ?_
      · rintro i σ H1 hi ⟨l, kvF, G, Lv, v4, v5, v6, v7, v8, v9, v10, rfl, hF, fdF, s1, hl, hrow, hLv, hLl, hGl, hrun⟩ x H1' ⟨rfl, rfl⟩
        intro d2 hd2
        have n21 : d1 ≠ d2 := ne_of_none hF hd2
        obtain ⟨Hb, hHb⟩ : ∃ Hb, Hb = upd H1' d2 (.dK []) := ⟨_, rfl⟩
        have sb : Same H1' Hb := by rw [hHb]; exact Same.new hd2
        have hd2b : Hb d2 = some (.dK []) := by rw [hHb, upd_same]
        have hd20 : H d2 = none := s1.free hd2
        show tSeq _ _ _ _ _
        rw [← hHb]
        refine ⟨fun σ H' => ∃ (kv2 : List (Key × V)) (v6 v7 v8 v9 v10 : Option V), σ = [some (.ref r), some (.str (SX.S t)), some (.ref d1), some (.ref l), some (.int (0 + (i : Int))), some (.ref d2), v6, v7, v8, v9, v10, none, none, none, none, none] ∧
          H' d2 = some (.dK kv2) ∧ FD K H' kv2 (freshL ms G Lv) ∧ Keep d2 Hb H' ∧ (freshL ms G Lv).length ≤ 1002000, ?_, ?_⟩
        · have hd2' : ∀ b o, H1' b = some o → b ≠ d2 := fun b o e => ne_of_none e hd2
          have up : ∀ {H' : Hp}, Keep d2 Hb H' → ∀ b o, H1' b = some o → H' b = some o := fun k b o e => k b o (sb b o e) (hd2' b o e)
          have fdb : FD K Hb kvF G := FD.mono fdF fun b xs q => SqT.same sb q
          have fdk : ∀ {H' : Hp}, Keep d2 Hb H' → FD K H' kvF G := fun k => FD.mono fdb fun b xs q => keepDk k hd2b q
          have hr1 : H1' r = some (.lst (ds.map V.ref)) := s1 _ _ hr0
          refine ⟨_, rfl, l, rfl, ⟨_, SqL.of (sb _ _ hl)⟩, ?_⟩
          refine for_n (n := Lv.length) (fun k σ H' => ∃ (kv2 : List (Key × V)) (D : Found) (v6 v7 v8 v9 v10 : Option V), σ = [some (.ref r), some (.str (SX.S t)), some (.ref d1), some (.ref l), some (.int (0 + (i : Int))), some (.ref d2), v6, v7, v8, v9, v10, none, none, none, none, none] ∧
              H' d2 = some (.dK kv2) ∧ FD K H' kv2 D ∧ Keep d2 Hb H' ∧ D = (Lv.take k).foldl (nearL ms G) [] ∧ D.length ≤ k * 2004)
            ⟨[], [], v6, v7, v8, v9, v10, rfl, hd2b, .nil, fun b o e _ => e, rfl, Nat.zero_le _⟩ (fun k σ H' hk ⟨_, _, _, _, _, _, _, _, _, _, k2, _⟩ => ?_) (fun σ H' ⟨_, _, _, _, _, _, _, _, _, _, k2, _⟩ => ⟨_, SqL.of (up k2 _ _ hl), by rw [txts_len]; exact Nat.le_refl _⟩) ?_ ?_
          · exact ⟨_, .str (SX.S (Lv[k])), SqL.of (up k2 _ _ hl), by simp [txts, hk]⟩
          · rintro k σ H2 hk ⟨kv2, D, v6, v7, v8, v9, v10, rfl, h2, fd2, k2, hD, hDl⟩ x H2' ⟨rfl, hx⟩
            have hx := hx _ (SqL.of (up k2 _ _ hl))
            obtain ⟨near, hnear⟩ : ∃ near, near = Lv[k] := ⟨_, rfl⟩
            have ex : x = .str (SX.S near) := by
              have : (txts Lv)[k]? = some (.str (SX.S near)) := by simp [txts, hk, hnear]
              exact Option.some.inj (hx.symm.trans this)
            subst ex
            obtain ⟨hnG, hnl⟩ := hLv near (by rw [hnear]; exact List.getElem_mem hk)
            refine ⟨_, rfl, r, _, rfl, SqL.of (up k2 _ _ hr1), ?_⟩
            refine for_n (n := ms.length) (fun j σ H' => ∃ (kv2 : List (Key × V)) (D1 : Found) (v7 v8 v9 v10 : Option V), σ = [some (.ref r), some (.str (SX.S t)), some (.ref d1), some (.ref l), some (.int (0 + (i : Int))), some (.ref d2), some (.str (SX.S near)), v7, v8, v9, v10, none, none, none, none, none] ∧
                H' d2 = some (.dK kv2) ∧ FD K H' kv2 D1 ∧ Keep d2 Hb H' ∧ D1 = ((num 0 ms).take j).foldl (fun D p => jobL G D near p) D ∧ D1.length ≤ k * 2004 + j * 501)
              ⟨kv2, D, v7, v8, v9, v10, rfl, h2, fd2, k2, rfl, by omega⟩ (fun j σ H' hj ⟨_, _, _, _, _, _, _, _, _, k2, _⟩ => ?_) (fun σ H' ⟨_, _, _, _, _, _, _, _, _, k2, _⟩ => ⟨_, SqL.of (up k2 _ _ hr1), by rw [List.length_map, paired_len Tb.dic]; exact Nat.le_refl _⟩) ?_ ?_
            · have hj' : j < ds.length := by rw [paired_len Tb.dic]; exact hj
              exact ⟨_, .ref (ds[j]), SqL.of (up k2 _ _ hr1), by simp [hj']⟩
            · rintro j σ H3 hj ⟨kv3, D1, v7, v8, v9, v10, rfl, h3, fd3, k3, hD1, hD1l⟩ x H3' ⟨Tq, xd, rfl, hTq, rfl, hxd⟩
              obtain ⟨m, hm⟩ : ∃ m, m = ms[j] := ⟨_, rfl⟩
              have hmj : ms[j]? = some m := by rw [hm, List.getElem?_eq_getElem hj]
              have hmm : m ∈ ms := List.mem_of_getElem? hmj
              obtain ⟨d, hdj, hdm⟩ := paired_get Tb.dic hmj
              have hxd := hxd _ (SqL.of (up k3 _ _ hr1))
              have exd : xd = .ref d := by
                have : (ds.map V.ref)[j]? = some (.ref d) := by rw [List.getElem?_map, hdj]; rfl
                exact Option.some.inj (hxd.symm.trans this)
              subst exd
              have s3 : Same H3 (upd H3 Tq (.tup [.int (j : Nat), .ref d])) := Same.new hTq
              obtain ⟨rw_, bw, hlk, hval, sqw, hrl⟩ : ∃ (rw_ : Row) (bw : Addr), (G.lookup near).getD [] = rw_ ∧ valV kvF (Sum.inr (SX.S near) : Key) = some (.ref bw) ∧ SqT K H3 bw (rowV rw_) ∧ rw_.length ≤ 600 := by
                rcases (fdk k3).val near with ⟨_, _, e⟩ | ⟨r', b', e1, e2, e3, _⟩
                · rw [e] at hnG; cases hnG
                · refine ⟨r', b', by rw [e1]; rfl, e2, e3, ?_⟩
                  have h1 := hrow (near, r') (by
                    obtain ⟨l1, l2, e, _⟩ := List.lookup_eq_some_iff.mp e1
                    rw [e]; simp)
                  have h2 : r'.length ≤ i := h1
                  omega
              refine ⟨Tq, _, rfl, SqT.of upd_same, rfl, _, _, rfl, _, _, rfl, rfl, ?_⟩
              refine ⟨fun σ H' => ∃ rb, σ = [some (.ref r), some (.str (SX.S t)), some (.ref d1), some (.ref l), some (.int (0 + (i : Int))), some (.ref d2), some (.str (SX.S near)), some (.int (j : Nat)), some (.ref d), some (.ref rb), v10, none, none, none, none, none] ∧ SqT K H' rb (rowV (j :: rw_)) ∧ Same H3 H', ?_, ?_⟩
              · refine ⟨_, rfl, le_line (m := 1) (Nat.le_refl _), fun q1 hq1 => ?_⟩
                have s4 : Same H3 (upd (upd H3 Tq (.tup [.int (j : Nat), .ref d])) q1 (.tup [.int (j : Nat)])) := s3.trans (Same.new hq1)
                refine ⟨_, rfl, _, rfl, d1, .ref bw, rfl, .inl ⟨kvF, (Sum.inr (SX.S near) : Key), .inl (s4 _ _ (up k3 _ _ hF)), rfl, hval.symm⟩, q1, bw, [.int (j : Nat)], rowV rw_, rfl, rfl, SqT.of upd_same, SqT.same s4 sqw, by simp, ?_, fun e => ?_, fun _ p hp => ?_⟩
                · rw [rowV_len]; exact le_line (m := 700) (by show 1 + _ ≤ _; omega)
                · refine ⟨q1, rfl, ?_, s4⟩
                  have : rw_ = [] := by
                    cases rw_ with
                    | nil => rfl
                    | cons a b => cases e
                  rw [this]
                  exact SqT.of upd_same
                · exact ⟨p, rfl, SqT.of upd_same, s4.trans (Same.new hp)⟩
              · rintro σ H4 ⟨rb, rfl, sqr, s4⟩
                have hdm4 : H4 d = some (.dK (kvM m)) := s4 _ _ (up k3 _ _ (s1 _ _ hdm))
                refine ⟨_, rfl, _, rfl, d, m, near, rfl, hdm4, Tb.good m hmm, Tb.keys m hmm, Tb.imgs m hmm, hnl, fun H5 rr s5 hrr => ⟨rr, rfl, ⟨_, SqL.of hrr⟩, ?_⟩⟩
                have s35 : Same H3 H5 := s4.trans s5
                have h35 : H5 d2 = some (.dK kv3) := s35 _ _ h3
                have nrr : rr ≠ d2 := ne_of hrr h35 (fun z => nomatch z)
                have hrow5 : rowOf G near j = j :: rw_ := by unfold rowOf; rw [hlk]
                refine for_n (n := (srcs m near).length) (fun u σ H' => ∃ (kv : List (Key × V)) (D2 : Found) (v10 : Option V), σ = [some (.ref r), some (.str (SX.S t)), some (.ref d1), some (.ref l), some (.int (0 + (i : Int))), some (.ref d2), some (.str (SX.S near)), some (.int (j : Nat)), some (.ref d), some (.ref rb), v10, none, none, none, none, none] ∧
                    H' d2 = some (.dK kv) ∧ FD K H' kv D2 ∧ Keep d2 H5 H' ∧ D2 = ((srcs m near).take u).foldl (updD G (rowOf G near j)) D1 ∧ D2.length ≤ k * 2004 + j * 501 + u)
                  ⟨kv3, D1, v10, rfl, h35, FD.mono fd3 fun b xs q => SqT.same s35 q, Keep.refl _ _, rfl, by omega⟩ (fun u σ H' hu' ⟨_, _, _, _, _, _, k6, _⟩ => ?_) (fun σ H' ⟨_, _, _, _, _, _, k6, _⟩ => ⟨_, SqL.of (k6 _ _ hrr nrr), by rw [txts_len]; exact Nat.le_refl _⟩) ?_ ?_
                · exact ⟨_, .str (SX.S ((srcs m near)[u])), SqL.of (k6 _ _ hrr nrr), by simp [txts, hu']⟩
                · rintro u σ H6 hu' ⟨kv, D2, v10, rfl, h6, fd6, k6, hD2, hD2l⟩ x H6' ⟨rfl, hx⟩
                  have hx := hx _ (SqL.of (k6 _ _ hrr nrr))
                  obtain ⟨one, hone⟩ : ∃ one, one = (srcs m near)[u] := ⟨_, rfl⟩
                  have ex : x = .str (SX.S one) := by
                    have : (txts (srcs m near))[u]? = some (.str (SX.S one)) := by simp [txts, hu', hone]
                    exact Option.some.inj (hx.symm.trans this)
                  subst ex
                  have k36 : Keep d2 Hb H6' := k3.trans ((Keep.of s35).trans k6)
                  have hF6 := up k36 _ _ hF
                  have sq6 : SqT K H6' rb (rowV (j :: rw_)) := keepDk k6 h35 (SqT.same s5 sqr)
                  have hstep : ((srcs m near).take (u + 1)).foldl (updD G (rowOf G near j)) D1 = updD G (rowOf G near j) D2 one := by
                    rw [List.take_add_one, List.getElem?_eq_getElem hu', ← hone, List.foldl_append, ← hD2]; rfl
                  have hs501 := srcs_len m near
                  have hl4 := Tb.len
                  refine ⟨_, rfl, _, rfl, d1, _, rfl, DGet.k (k := (Sum.inr (SX.S one) : Key)) hF6, _, rfl, ?_⟩
                  have nxP : updD G (rowOf G near j) D2 one = Org.put D2 one (rowOf G near j) → ∃ (kv' : List (Key × V)) (D3 : Found) (v10' : Option V), [some (V.ref r), some (.str (SX.S t)), some (.ref d1), some (.ref l), some (.int (0 + (i : Int))), some (.ref d2), some (.str (SX.S near)), some (.int (j : Nat)), some (.ref d), some (.ref rb), some (.str (SX.S one)), none, none, none, none, none] = [some (.ref r), some (.str (SX.S t)), some (.ref d1), some (.ref l), some (.int (0 + (i : Int))), some (.ref d2), some (.str (SX.S near)), some (.int (j : Nat)), some (.ref d), some (.ref rb), v10', none, none, none, none, none] ∧
                      upd H6' d2 (.dK (putK kv (Sum.inr (SX.S one) : Key) (.ref rb))) d2 = some (.dK kv') ∧ FD K (upd H6' d2 (.dK (putK kv (Sum.inr (SX.S one) : Key) (.ref rb)))) kv' D3 ∧ Keep d2 H5 (upd H6' d2 (.dK (putK kv (Sum.inr (SX.S one) : Key) (.ref rb)))) ∧ D3 = ((srcs m near).take (u + 1)).foldl (updD G (rowOf G near j)) D1 ∧ D3.length ≤ k * 2004 + j * 501 + (u + 1) := fun e => by
                    refine ⟨_, Org.put D2 one (rowOf G near j), _, rfl, upd_same, FD.mono (FD.put fd6 (by rw [hrow5]; exact sq6)) fun b xs q => keepDk Keep.put h6 q, k6.trans Keep.put, by rw [hstep, e], ?_⟩
                    have := put_len D2 one (rowOf G near j)
                    omega
                  have nxN : updD G (rowOf G near j) D2 one = D2 → ∃ (kv' : List (Key × V)) (D3 : Found) (v10' : Option V), [some (V.ref r), some (.str (SX.S t)), some (.ref d1), some (.ref l), some (.int (0 + (i : Int))), some (.ref d2), some (.str (SX.S near)), some (.int (j : Nat)), some (.ref d), some (.ref rb), some (.str (SX.S one)), none, none, none, none, none] = [some (.ref r), some (.str (SX.S t)), some (.ref d1), some (.ref l), some (.int (0 + (i : Int))), some (.ref d2), some (.str (SX.S near)), some (.int (j : Nat)), some (.ref d), some (.ref rb), v10', none, none, none, none, none] ∧
                      H6' d2 = some (.dK kv') ∧ FD K H6' kv' D3 ∧ Keep d2 H5 H6' ∧ D3 = ((srcs m near).take (u + 1)).foldl (updD G (rowOf G near j)) D1 ∧ D3.length ≤ k * 2004 + j * 501 + (u + 1) := fun e =>
                    ⟨kv, D2, _, rfl, h6, fd6, k6, by rw [hstep, e], by omega⟩
                  have hkl : kv.length < sizeLine := by rw [paired_len fd6]; exact lt_line (m := 1010000) (by omega)
                  rcases (fdk k36).val one with ⟨_, eG, eh⟩ | ⟨_, _, _, eG, _, eh⟩
                  · rw [eG]
                    refine iteT ⟨_, rfl, _, rfl, d2, _, rfl, DGet.k (k := (Sum.inr (SX.S one) : Key)) h6, _, rfl, ?_⟩
                    rcases fd6.val one with ⟨eL, eD, eh2⟩ | ⟨r', b', eL, eD, sqb, eh2⟩
                    · rw [eD]
                      refine iteT (iteT ⟨_, rfl, _, rfl, _, rfl, d2, _, rfl, DPut.k (k := (Sum.inr (SX.S one) : Key)) h6 hkl, nxP ?_⟩)
                      unfold updD
                      rw [eh, eh2]; rfl
                    · rw [eD]
                      refine iteF ⟨_, rfl, _, rfl, _, rfl, d2, .ref b', rfl, .inl ⟨kv, (Sum.inr (SX.S one) : Key), .inl h6, rfl, eD.symm⟩, rb, b', (j :: rw_).map fun i : Nat => (i : Int), r'.map fun i : Nat => (i : Int), rfl, rfl, sq6, sqb, _, rfl, ?_⟩
                      rw [lexLt_row]
                      refine ite2 (fun hlt => ?_) (fun hlt => nxN ?_)
                      · refine ⟨_, rfl, _, rfl, _, rfl, d2, _, rfl, DPut.k (k := (Sum.inr (SX.S one) : Key)) h6 hkl, nxP ?_⟩
                        unfold updD
                        rw [eh, eh2, eL, hrow5]
                        simp only [Option.getD_some, hlt]
                        rfl
                      · unfold updD
                        rw [eh, eh2, eL, hrow5]
                        simp only [Option.getD_some, Bool.eq_false_iff.mpr hlt]
                        rfl
                  · rw [eG]
                    refine iteF (iteF (nxN ?_))
                    unfold updD
                    rw [eh]; rfl
                · rintro σ H6 ⟨kv, D2, v10, rfl, h6, fd6, k6, hD2, hD2l⟩
                  have hs501 := srcs_len m near
                  rw [List.take_length] at hD2
                  refine ⟨kv, D2, _, _, _, _, rfl, h6, fd6, k3.trans ((Keep.of s35).trans k6), ?_, by omega⟩
                  rw [List.take_add_one, num_get ms 0 j m hmj, List.foldl_append, ← hD1, hD2, Nat.zero_add]
                  rfl
            · rintro σ H3 ⟨kv3, D1, v7, v8, v9, v10, rfl, h3, fd3, k3, hD1, hD1l⟩
              have := Tb.len
              refine ⟨kv3, D1, _, _, _, _, _, rfl, h3, fd3, k3, ?_, by omega⟩
              rw [List.take_of_length_le (by rw [num_len]; exact Nat.le_refl _)] at hD1
              rw [List.take_add_one, List.getElem?_eq_getElem hk, ← hnear, hD1, hD, List.foldl_append]
              rfl
          · rintro σ H2 ⟨kv2, D, v6, v7, v8, v9, v10, rfl, h2, fd2, k2, hD, hDl⟩
            rw [List.take_length] at hD
            have e : freshL ms G Lv = D := by rw [hD]; rfl
            refine ⟨kv2, v6, v7, v8, v9, v10, rfl, h2, by rw [e]; exact fd2, k2, by rw [e]; omega⟩
        · rintro σ H2 ⟨kv2, v6, v7, v8, v9, v10, rfl, h2, fd2, k2, hfl⟩
          have up : ∀ b o, H1' b = some o → H2 b = some o := fun b o e => k2 b o (sb b o e) (ne_of_none e hd2)
          have hF2 : H2 d1 = some (.dK kvF) := up _ _ hF
          have fdF2 : FD K H2 kvF G := FD.mono fdF fun b xs q => keepDk k2 hd2b (SqT.same sb q)
          have s2 : Same H H2 := fun b o e => up b o (s1 b o e)
          have e600 : 600 - i = (600 - (i + 1)) + 1 := by omega
          rw [e600] at hrun
          refine ⟨_, rfl, d1, kvF, rfl, hF2, _, rfl, d2, kv2, rfl, h2, _, _, rfl, rfl, _, _, rfl, rfl, _, rfl, ?_⟩
          rw [paired_len fdF2, paired_len fd2]
          refine ite2 (fun hgt => kN H2 ?_ s2) (fun hgt => ?_)
          · rw [← hrun]
            unfold runL
            rw [if_pos (by have := of_decide_eq_true hgt; show G.length + (freshL ms G Lv).length > 500; omega)]
          have hle : G.length + (freshL ms G Lv).length ≤ 500 := by
            have := of_decide_eq_false (Bool.eq_false_iff.mpr hgt)
            omega
          have hrun2 : runL ms (600 - (i + 1)) (levelL ms (G, Lv)) = origL ms t := by
            rw [← hrun]
            conv => rhs; unfold runL
            rw [if_neg (by show ¬ G.length + (freshL ms G Lv).length > 500; omega)]
          obtain ⟨Fr, hFr⟩ : ∃ Fr, Fr = freshL ms G Lv := ⟨_, rfl⟩
          rw [← hFr] at fd2 hle
          have mins := freshL_mins ms G Lv
          rw [← hFr] at mins
          refine ⟨_, rfl, d2, kv2, rfl, h2, fun l2 hl2 => ?_⟩
          rw [FD.keys fd2]
          have hmem : ∀ x rw_, (x, rw_) ∈ Fr → has G x = false ∧ x.length ≤ 100 ∧ rw_.length ≤ i + 1 := fun x rw_ hx => by
            obtain ⟨g1, g2, _⟩ := (mins.iff x rw_).mp hx
            have g2 : (rw_, x) ∈ pairsL ms G Lv := g2
            unfold pairsL at g2
            obtain ⟨n, hn, g3⟩ := List.mem_flatMap.mp g2
            obtain ⟨p, hp, g4⟩ := List.mem_flatMap.mp g3
            obtain ⟨y, hy, g5⟩ := List.mem_map.mp g4
            cases g5
            have hpm := (num_mem ms 0 p hp).2
            refine ⟨g1, Nat.le_trans (srcs_sound (Tb.good _ hpm) hy).2.1 (hLv n hn).2, ?_⟩
            unfold rowOf
            cases hlk : G.lookup n with
            | none => simp
            | some r' =>
              have := hrow (n, r') (by
                obtain ⟨l1, l2, e, _⟩ := List.lookup_eq_some_iff.mp hlk
                rw [e]; simp)
              show r'.length + 1 ≤ i + 1
              have : r'.length ≤ i := this
              omega
          obtain ⟨Hc, hHc⟩ : ∃ Hc, Hc = upd H2 l2 (.lst (txts (Fr.map (·.1)))) := ⟨_, rfl⟩
          have sc2 : Same H2 Hc := by rw [hHc]; exact Same.new hl2
          have hl2c : Hc l2 = some (.lst (txts (Fr.map (·.1)))) := by rw [hHc, upd_same]
          have hFc := sc2 _ _ hF2
          have hd1H : H d1 = none := hd1
          have nl2 : l2 ≠ d1 := fun e => by rw [e, hF2] at hl2; cases hl2
          rw [← hHc]
          refine ⟨_, rfl, l2, rfl, ⟨_, SqL.of hl2c⟩, ?_⟩
          refine for_n (n := Fr.length) (fun u σ H' => ∃ (kvG : List (Key × V)) (v10' : Option V), σ = [some (.ref r), some (.str (SX.S t)), some (.ref d1), some (.ref l2), some (.int (0 + (i : Int))), some (.ref d2), v6, v7, v8, v9, v10', none, none, none, none, none] ∧
              H' d1 = some (.dK kvG) ∧ FD K H' kvG (G ++ Fr.take u) ∧ Keep d1 Hc H')
            ⟨kvF, v10, rfl, hFc, by rw [List.take_zero, List.append_nil]; exact FD.mono fdF2 fun b xs q => SqT.same sc2 q, Keep.refl _ _⟩ (fun u σ H' hu' ⟨_, _, _, _, _, k5⟩ => ?_) (fun σ H' ⟨_, _, _, _, _, k5⟩ => ⟨_, SqL.of (k5 _ _ hl2c nl2), by rw [txts_len, List.length_map]; exact Nat.le_refl _⟩) ?_ ?_
          · exact ⟨_, .str (SX.S (Fr[u]).1), SqL.of (k5 _ _ hl2c nl2), by simp [txts, hu']⟩
          · rintro u σ H3 hu' ⟨kvG, v10', rfl, hG3, fdG, k5⟩ x H3' ⟨rfl, hx⟩
            have hx := hx _ (SqL.of (k5 _ _ hl2c nl2))
            obtain ⟨one, ro, hor⟩ : ∃ one ro, (one, ro) = Fr[u] := ⟨_, _, rfl⟩
            have ex : x = .str (SX.S one) := by
              have : (txts (Fr.map (·.1)))[u]? = some (.str (SX.S one)) := by simp [txts, hu', ← hor]
              exact Option.some.inj (hx.symm.trans this)
            subst ex
            have hin : (one, ro) ∈ Fr := by rw [hor]; exact List.getElem_mem hu'
            have h2c : H3' d2 = some (.dK kv2) := k5 _ _ (sc2 _ _ h2) n21.symm
            have fd2c : FD K H3' kv2 Fr := FD.mono fd2 fun b xs q => keepDk k5 hFc (SqT.same sc2 q)
            have hlk := (lookup_iff mins.nd).mpr hin
            rcases fd2c.val one with ⟨e, _⟩ | ⟨r', b', eL, eD, sqb, _⟩
            · rw [e] at hlk; cases hlk
            rw [eL] at hlk
            cases hlk
            have hno : has (G ++ Fr.take u) one = false := by
              rw [has_append, (hmem one ro hin).1, Bool.false_or]
              have hnd := mins.nd
              rw [← List.take_append_drop u Fr, List.drop_eq_getElem_cons hu', ← hor] at hnd
              rw [List.map_append, List.map_cons, List.nodup_append] at hnd
              unfold has
              rw [Bool.eq_false_iff]
              intro hc
              rw [List.contains_iff_mem] at hc
              exact hnd.2.2 _ hc one (by simp) rfl
            have hkl : kvG.length < sizeLine := by
              rw [paired_len fdG, List.length_append, List.length_take]; exact lt_line (m := 1010000) (by omega)
            refine ⟨_, rfl, _, rfl, d2, .ref b', rfl, .inl ⟨kv2, (Sum.inr (SX.S one) : Key), .inl h2c, rfl, eD.symm⟩, _, rfl, _, rfl, d1, _, rfl, DPut.k (k := (Sum.inr (SX.S one) : Key)) hG3 hkl, _, _, rfl, upd_same, ?_, k5.trans Keep.put⟩
            have hput := FD.mono (FD.put fdG (x := one) sqb) fun b xs q => keepDk (Keep.put (o := .dK (putK kvG (Sum.inr (SX.S one) : Key) (.ref b')))) hG3 q
            have eput : Org.put (G ++ Fr.take u) one ro = G ++ Fr.take (u + 1) := by
              unfold Org.put
              rw [hno, if_neg (by simp), List.take_add_one, List.getElem?_eq_getElem hu', ← hor]
              simp
            rw [eput] at hput
            exact hput
          · rintro σ H3 ⟨kvG, v10', rfl, hG3, fdG, k5⟩
            rw [List.take_length] at fdG
            refine ⟨l2, kvG, G ++ Fr, Fr.map (·.1), _, _, _, _, _, _, _, rfl, hG3, fdG, fun b o e => k5 _ _ (sc2 _ _ (s2 _ _ e)) (ne_of_none e hd1H), k5 _ _ hl2c nl2, fun p hp => ?_, fun n hn => ?_, by rw [List.length_map]; omega, by rw [List.length_append]; omega, ?_⟩
            · rcases List.mem_append.mp hp with hp | hp
              · have := hrow p hp; omega
              · exact (hmem p.1 p.2 hp).2.2
            · obtain ⟨p, hp, rfl⟩ := List.mem_map.mp hn
              refine ⟨?_, (hmem p.1 p.2 hp).2.1⟩
              rw [has_append, Bool.or_eq_true]
              exact .inr (has_iff.mpr ⟨p.2, hp⟩)
            · rw [← hrun2]
              unfold levelL
              rw [← hFr]
      · rintro σ H1 ⟨l, kvF, G, Lv, v4, v5, v6, v7, v8, v9, v10, rfl, hF, fdF, s1, hl, hrow, hLv, hLl, hGl, hrun⟩
        exact ⟨l, kvF, G, Lv, v4, v5, v6, v7, v8, v9, v10, rfl, hF, fdF, s1, by rw [← hrun]; rfl⟩
    · rintro σ H1 ⟨l, kvF, G, Lv, v4, v5, v6, v7, v8, v9, v10, rfl, hF, fdF, s1, hrun⟩
      obtain ⟨FF, E⟩ : ∃ FF, Ends ms al t.length FF G := by
        rcases orig_both Tb.good hal ht with ⟨_, e⟩ | ⟨FF, G', _, e, E⟩
        · rw [hrun] at e; cases e
        · rw [hrun] at e; cases e; exact ⟨FF, E⟩
      have okG : ∀ p ∈ G, p.1.length ≤ 100 ∧ (∀ c ∈ p.1, al c) ∧ (∀ i ∈ p.2, i < 10) ∧ p.2.length < 500 := fun p hp => by
        have hpF := E.perm.mem_iff.mpr hp
        have o := E.ok p hpF
        have := E.few
        have := E.row p hpF
        have := o.len
        exact ⟨by omega, o.al, fun i hi => by have := o.row i hi; have := Tb.len; omega, by omega⟩
      have ndG : (G.map (·.1)).Nodup := (E.perm.map _).nodup_iff.mp E.nd
      have hGl : G.length ≤ 500 := by rw [← E.perm.length_eq]; exact E.few
      refine ⟨Nat.zero_le _, fun k1 hk1 => ?_⟩
      have nk1 : k1 ≠ d1 := fun e => by rw [e, hF] at hk1; cases hk1
      refine ⟨fun σ H' => ∃ (v10 v12 : Option V), σ = [some (.ref r), some (.str (SX.S t)), some (.ref d1), some (.ref l), v4, v5, v6, v7, v8, v9, v10, some (.ref k1), v12, none, none, none] ∧ H' k1 = some (.lst (txts (G.map enc))) ∧ Same H H', ?_, ?_⟩
      · obtain ⟨H2, hH2⟩ : ∃ H2, H2 = upd H1 k1 (.lst []) := ⟨_, rfl⟩
        have s12 : Same H1 H2 := by rw [hH2]; exact Same.new hk1
        have hk12 : H2 k1 = some (.lst []) := by rw [hH2, upd_same]
        have hF2 := s12 _ _ hF
        have hkn : H k1 = none := s1.free hk1
        rw [← hH2]
        refine ⟨d1, _, hF2, trivial, fun od => ?_⟩
        obtain ⟨Hl, hHl⟩ : ∃ Hl, Hl = upd H2 d1 (.frz od (.dK kvF)) := ⟨_, rfl⟩
        rw [← hHl]
        have hFl : Hl d1 = some (.frz od (.dK kvF)) := by rw [hHl, upd_same]
        have hk1l : Hl k1 = some (.lst []) := by rw [hHl, upd_ne nk1]; exact hk12
        have fdl : FD K Hl kvF G := FD.mono fdF fun b xs q => by rw [hHl]; exact keepDk Keep.put hF2 (SqT.same s12 q)
        have kl : Keep d1 H2 Hl := by rw [hHl]; exact Keep.put
        refine ⟨_, rfl, d1, od, rfl, .inl ⟨kvF, hFl, ?_⟩⟩
        refine for_n (n := G.length) (fun u σ H' => ∃ (v10 v12 : Option V), σ = [some (.ref r), some (.str (SX.S t)), some (.ref d1), some (.ref l), v4, v5, v6, v7, v8, v9, v10, some (.ref k1), v12, none, none, none] ∧ H' k1 = some (.lst (txts ((G.take u).map enc))) ∧ Keep k1 Hl H')
          ⟨v10, none, rfl, hk1l, Keep.refl _ _⟩ (fun u σ H' hu' ⟨_, _, _, _, k5⟩ => ⟨k5 _ _ hFl nk1.symm, by rw [paired_len fdF]; exact hu'⟩) (fun σ H' ⟨_, _, _, _, k5⟩ => ⟨k5 _ _ hFl nk1.symm, by rw [paired_len fdF]; exact Nat.le_refl _⟩) ?_ ?_
        · rintro u σ H3 hu' ⟨v10, v12, rfl, hk3, k5⟩ x H3' ⟨rfl, key, v, hkv, rfl⟩
          obtain ⟨p, hp⟩ : ∃ p, p = G[u] := ⟨_, rfl⟩
          have hpu : G[u]? = some p := by rw [hp, List.getElem?_eq_getElem hu']
          have hpm : p ∈ G := List.mem_of_getElem? hpu
          obtain ⟨o1, o2, o3, o4⟩ := okG p hpm
          obtain rfl := paired_keys_at fdF hpu hkv
          have fd3 : FD K H3' kvF G := FD.mono fdl fun b xs q => keepLk k5 hk1l q
          have hlk := (lookup_iff ndG).mpr (show (p.1, p.2) ∈ G from hpm)
          rcases fd3.val p.1 with ⟨e, _⟩ | ⟨r', b', eL, eD, sqb, _⟩
          · rw [e] at hlk; cases hlk
          rw [eL] at hlk
          cases hlk
          have hF3 := k5 _ _ hFl nk1.symm
          refine ⟨⟨_, rfl⟩, _, rfl, _, rfl, d1, .ref b', rfl, .inl ⟨kvF, (Sum.inr (SX.S p.1) : Key), .inr ⟨_, hF3⟩, rfl, eD.symm⟩, b', rfl, ⟨_, sqb⟩, ?_⟩
          intro D hD
          refine lc_n (n := p.2.length) (fun i2 H7 => Same H3' H7 ∧ H7 D = some (.lst ((((p.2.take i2).map (48 + ·)).map fun c => [c]).map fun c => V.str (SX.S c)))) ⟨Same.new hD, by rw [upd_same]; rfl⟩ (fun i2 H7 hi2 ⟨s7, _⟩ => ?_) (fun H7 ⟨s7, _⟩ => ⟨_, SqT.same s7 sqb, by rw [rowV_len]; exact Nat.le_refl _⟩) ?_ ?_
          · exact ⟨_, .int (((p.2)[i2] : Nat) : Int), SqT.same s7 sqb, by simp [rowV, hi2]⟩
          · rintro i2 H7 hi2 ⟨s7, h7⟩ x H8 ⟨rfl, hx⟩
            have hx := hx _ (SqT.same s7 sqb)
            have ex : x = .int (((p.2)[i2] : Nat) : Int) := by
              have : (rowV p.2)[i2]? = some (.int (((p.2)[i2] : Nat) : Int)) := by simp [rowV, hi2]
              exact Option.some.inj (hx.symm.trans this)
            subst ex
            have h10 := o3 _ (List.getElem_mem hi2)
            refine ⟨rfl, _, rfl, _, rfl, log_small (by omega) (by omega), _, h7, ?_, ?_, ?_⟩
            · simp only [List.length_map, List.length_take]; exact lt_line (m := 600) (by omega)
            · intro b o e
              rw [upd_ne (ne_of_none e hD)]
              exact s7 b o e
            · rw [upd_same, List.take_add_one, List.getElem?_eq_getElem hi2]
              show some (HO.lst (_ ++ [V.str (Str.ofString (toString (((p.2)[i2] : Nat) : Int)))])) = _
              rw [num_one h10, List.map_append, List.map_append, List.map_append]
              rfl
          · rintro H7 ⟨s7, h7⟩
            rw [List.take_length] at h7
            refine ⟨_, _, ((p.2.map (48 + ·)).map fun c => [c]).map SX.S, rfl, rfl, .inl (SqL.of ?_), ?_, ?_⟩
            · rw [h7, List.map_map (g := V.str)]; rfl
            · rw [sum_one]
              simp only [List.length_map]
              have e0 : (Str.ofString "").length = 0 := rfl
              rw [e0]; omega
            rw [join_one]
            have hk7 := s7 _ _ hk3
            have hkl : (txts ((G.take u).map enc)).length < sizeLine := by rw [txts_len, List.length_map, List.length_take]; exact lt_line (m := 600) (by omega)
            have hsz : ∀ l : List Nat, l.length ≤ 600 → (SX.S l).length ≤ sizeLine := fun l h => by rw [SX.S_len]; exact le_line (m := 600) h
            have ef : (p.2.map (48 + ·)).length = p.2.length := List.length_map ..
            refine ⟨_, rfl, .inl ⟨rfl, _, SqL.of hk7⟩, ?_⟩
            refine ⟨_, rfl, _, rfl, hsz _ (by omega), _, _, rfl, rfl, _, rfl, log_small (by omega) (by rw [SX.S_len]; omega), _, rfl, _, _, rfl, rfl, ?_, _, _, rfl, rfl, ?_, _, rfl, _, rfl, hsz _ (by omega), _, _, rfl, rfl, _, rfl, log_small (by omega) (by rw [SX.S_len]; omega), _, _, rfl, rfl, ?_, _, rfl, _, _, rfl, rfl, ?_, ?_⟩
            · exact (enc_sizes p (by omega) (by omega)).1
            · exact (enc_sizes p (by omega) (by omega)).2.1
            · exact (enc_sizes p (by omega) (by omega)).2.2.1
            · exact (enc_sizes p (by omega) (by omega)).2.2.2
            · refine ⟨k1, _, _, rfl, rfl, hk7, hkl, _, _, rfl, ?_, (k5.trans (Keep.of s7)).trans Keep.put⟩
              rw [upd_same, List.take_add_one, hpu, List.map_append, txts_app]
              show some (HO.lst (_ ++ [V.str _])) = _
              rw [enc_is p (by omega) (by omega)]
              rfl
        · rintro σ H3 ⟨v10, v12, rfl, hk3, k5⟩
          rw [List.take_length] at hk3
          have hF3 := k5 _ _ hFl nk1.symm
          refine ⟨hF3, _, _, rfl, by rw [upd_ne nk1]; exact hk3, fun b o e => ?_⟩
          have nb1 : b ≠ k1 := ne_of_none e hkn
          by_cases hb : b = d1
          · rw [hb] at e; rw [hd1] at e; cases e
          · rw [upd_ne hb]
            exact k5 _ _ (kl _ _ (s12 _ _ (s1 _ _ e)) hb) nb1
      · rintro σ H2 ⟨v10, v12, rfl, hk2, s2⟩
        have sorted_F : ∀ zs : List Str, zs = ((G.map enc).map SX.S).mergeSort leS → zs = (FF.map enc).map SX.S := fun zs hz => by
          have hperm : zs.Perm ((G.map enc).map SX.S) := by rw [hz]; exact List.mergeSort_perm _ _
          have hp2 : (zs.map fun z => z.cps.toList).Perm (G.map enc) := by
            have := hperm.map fun z : Str => z.cps.toList
            rw [List.map_map (f := SX.S)] at this
            have e : ((fun z : Str => z.cps.toList) ∘ SX.S) = id := by funext l; simp [SX.S]
            rwa [e, List.map_id] at this
          have hs : (zs.map fun z => z.cps.toList).Pairwise fun a b => ¬ b < a := by
            rw [List.pairwise_map, hz]
            refine (List.pairwise_mergeSort (le := leS) (fun a b c h h' => ?_) (fun a b => ?_) _).imp fun {a b} h => ?_
            · exact decide_eq_true (Std.le_trans (of_decide_eq_true h) (of_decide_eq_true h'))
            · unfold leS
              rw [Bool.or_eq_true, decide_eq_true_iff, decide_eq_true_iff]
              exact Std.le_total
            · exact List.not_lt.mpr (of_decide_eq_true h)
          have := sorted_is E (by omega) hp2 hs
          rw [← this, List.map_map]
          conv => lhs; rw [← List.map_id zs]
          apply List.map_congr_left
          intro z _
          exact (SX.S_tl z).symm
        have hmemF : ∀ q ∈ FF, q.1.length ≤ 100 ∧ (∀ c ∈ q.1, c ≠ 32) ∧ (∀ i ∈ q.2, i < 10) ∧ q.2.length < 500 := fun q hq => by
          obtain ⟨o1, o2, o3, o4⟩ := okG q (E.perm.mem_iff.mp hq)
          exact ⟨o1, fun c hc => h32 c (o2 c hc), o3, o4⟩
        refine ⟨_, rfl, k1, rfl, ⟨_, SqL.of hk2⟩, ?_⟩
        intro D1 hD1
        refine lc_n (n := G.length) (fun i2 H7 => Same H2 H7 ∧ H7 D1 = some (.lst (txts ((G.take i2).map enc)))) ⟨Same.new hD1, by rw [upd_same]; rfl⟩ (fun i2 H7 hi2 ⟨s7, _⟩ => ?_) (fun H7 ⟨s7, _⟩ => ⟨_, SqL.of (s7 _ _ hk2), by rw [txts_len, List.length_map]; exact Nat.le_refl _⟩) ?_ ?_
        · exact ⟨_, .str (SX.S (enc G[i2])), SqL.of (s7 _ _ hk2), by simp [txts, hi2]⟩
        · rintro i2 H7 hi2 ⟨s7, h7⟩ x H8 ⟨rfl, hx⟩
          have hx := hx _ (SqL.of (s7 _ _ hk2))
          have ex : x = .str (SX.S (enc G[i2])) := by
            have : (txts (G.map enc))[i2]? = some (.str (SX.S (enc G[i2]))) := by simp [txts, hi2]
            exact Option.some.inj (hx.symm.trans this)
          subst ex
          refine ⟨rfl, _, rfl, _, rfl, _, h7, ?_, ?_, ?_⟩
          · rw [txts_len, List.length_map, List.length_take]; exact lt_line (m := 600) (by omega)
          · intro b o e
            rw [upd_ne (ne_of_none e hD1)]
            exact s7 b o e
          · rw [upd_same, List.take_add_one, List.getElem?_eq_getElem hi2, List.map_append, txts_app]
            rfl
        rintro H3 ⟨s3, h3⟩
        rw [List.take_length] at h3
        refine ⟨D1, (G.map enc).map SX.S, rfl, SqL.of (by rw [h3]; simp [txts]), fun p hp => ?_⟩
        rw [sorted_F _ rfl]
        have h3p : Same H3 (upd H3 p (.lst (((FF.map enc).map SX.S).map V.str))) := Same.new hp
        obtain ⟨H4, hH4⟩ : ∃ H4, H4 = upd H3 p (.lst (((FF.map enc).map SX.S).map V.str)) := ⟨_, rfl⟩
        rw [← hH4] at h3p ⊢
        have hp4 : H4 p = some (.lst (txts (FF.map enc))) := by rw [hH4, upd_same]; simp [txts]
        have s4 : Same H H4 := (s2.trans s3).trans h3p
        refine ⟨p, rfl, ⟨_, SqL.of hp4⟩, ?_⟩
        intro D2 hD2
        refine lc_n (n := FF.length) (fun i2 H7 => ∃ as : List Addr, Same H4 H7 ∧ H7 D2 = some (.lst (as.map V.ref)) ∧ Paired (fun a q => H7 a = some (.lst [.str (SX.S (encA q)), .str (SX.S (encB q))])) as (FF.take i2)) ⟨[], Same.new hD2, by rw [upd_same]; rfl, .nil⟩ (fun i2 H7 hi2 ⟨_, s7, _⟩ => ?_) (fun H7 ⟨_, s7, _⟩ => ⟨_, SqL.of (s7 _ _ hp4), by rw [txts_len, List.length_map]; exact Nat.le_refl _⟩) ?_ ?_
        · exact ⟨_, .str (SX.S (enc FF[i2])), SqL.of (s7 _ _ hp4), by simp [txts, hi2]⟩
        · rintro i2 H7 hi2 ⟨as, s7, h7, pr⟩ x H8 ⟨rfl, hx⟩
          have hx := hx _ (SqL.of (s7 _ _ hp4))
          obtain ⟨q, hq⟩ : ∃ q, q = FF[i2] := ⟨_, rfl⟩
          have ex : x = .str (SX.S (enc q)) := by
            have : (txts (FF.map enc))[i2]? = some (.str (SX.S (enc q))) := by simp [txts, hi2, hq]
            exact Option.some.inj (hx.symm.trans this)
          subst ex
          obtain ⟨o1, o2, o3, o4⟩ := hmemF q (by rw [hq]; exact List.getElem_mem hi2)
          refine ⟨rfl, _, rfl, ⟨_, rfl⟩, _, _, rfl, rfl, rfl, ?_, ?_⟩
          · rw [SX.S_len]
            unfold enc encA encB
            simp only [List.length_append, List.length_cons, List.length_map, dig_len]
            exact le_line (m := 2000) (by omega)
          rw [split_enc q o2 (by omega) (by omega)]
          intro a ha
          have nDa : D2 ≠ a := ne_of_none h7 ha
          refine ⟨_, by rw [upd_ne nDa]; exact h7, ?_, as ++ [a], ?_, ?_, ?_⟩
          · rw [List.length_map, paired_len pr, List.length_take]; exact lt_line (m := 600) (by have := E.few; omega)
          · intro b o e
            rw [upd_ne (ne_of_none e hD2), upd_ne (ne_of_none (s7 _ _ e) ha)]
            exact s7 b o e
          · rw [upd_same]; simp
          · rw [List.take_add_one, List.getElem?_eq_getElem hi2, ← hq]
            refine paired_append (Paired.mapP pr fun b q' e => ?_) (.cons (by rw [upd_ne nDa.symm, upd_same]; rfl) .nil)
            have n1 : b ≠ D2 := ne_of e h7 (fun z => by
              cases as with
              | nil => cases z
              | cons a b => cases z)
            rw [upd_ne n1, upd_ne (ne_of_none e ha)]
            exact e
        · rintro H5 ⟨as, s5, h5, pr⟩
          rw [List.take_length] at pr
          have s05 : Same H H5 := s4.trans s5
          refine ⟨_, rfl, D2, rfl, ⟨_, SqL.of h5⟩, ?_⟩
          intro L hL
          refine lc_n (n := FF.length) (fun i2 H7 => ∃ qs : List Addr, Same H5 H7 ∧ H7 L = some (.lst (qs.map V.ref)) ∧ Paired (RowOut H7) qs (FF.take i2)) ⟨[], Same.new hL, by rw [upd_same]; rfl, .nil⟩ (fun i2 H7 hi2 ⟨_, s7, _⟩ => ?_) (fun H7 ⟨_, s7, _⟩ => ⟨_, SqL.of (s7 _ _ h5), by rw [List.length_map, paired_len pr]; exact Nat.le_refl _⟩) ?_ ?_
          · have hi3 : i2 < as.length := by rw [paired_len pr]; exact hi2
            exact ⟨_, .ref as[i2], SqL.of (s7 _ _ h5), by simp [hi3]⟩
          · rintro i2 H7 hi2 ⟨qs, s7, h7, pr7⟩ x H8 ⟨rfl, hx⟩
            have hx := hx _ (SqL.of (s7 _ _ h5))
            obtain ⟨q, hq⟩ : ∃ q, q = FF[i2] := ⟨_, rfl⟩
            obtain ⟨a, ha, hca⟩ := paired_get pr (show FF[i2]? = some q by rw [List.getElem?_eq_getElem hi2, hq])
            have ex : x = .ref a := by
              have : (as.map V.ref)[i2]? = some (.ref a) := by rw [List.getElem?_map, ha]; rfl
              exact Option.some.inj (hx.symm.trans this)
            subst ex
            obtain ⟨o1, o2, o3, o4⟩ := hmemF q (by rw [hq]; exact List.getElem_mem hi2)
            have ha7 := s7 _ _ hca
            have lA : (encA q).length = 4 + q.2.length := by unfold encA; simp [dig_len]
            have lB : (encB q).length = 4 + q.1.length := by unfold encB; simp [dig_len]
            have dA : (encA q).drop 4 = q.2.map (48 + ·) := by unfold encA; rfl
            have dB : (encB q).drop 4 = q.1 := by unfold encB; rfl
            refine ⟨rfl, ?_⟩
            refine ⟨_, rfl, a, _, 0, _, rfl, rfl, SqL.of ha7, atI_nat (j := 0) rfl, 4, rfl, _, rfl, by rw [SX.S_len, lA]; exact le_line (m := 1000) (by omega), _, rfl, ?_⟩
            rw [cut4, dA]
            intro D3 hD3
            refine lc_n (n := q.2.length) (fun i3 H9 => Same H8 H9 ∧ H9 D3 = some (.lst (rowV (q.2.take i3)))) ⟨Same.new hD3, by rw [upd_same]; rfl⟩ (fun i3 H9 hi3 _ => by show i3 < _; rw [S_size, List.length_map]; exact hi3) (fun H9 _ => by show _ ≤ q.2.length; rw [S_size, List.length_map]; exact Nat.le_refl _) ?_ ?_
            · rintro i3 H9 hi3 ⟨s9, h9⟩ x H10 ⟨rfl, c, hxc, rfl⟩
              rw [S_get] at hxc
              rw [List.getElem?_map, List.getElem?_eq_getElem hi3] at hxc
              cases hxc
              have h10 := o3 _ (List.getElem_mem hi3)
              refine ⟨rfl, _, rfl, _, _, rfl, int_one h10, by show (SX.S [_]).length ≤ 640; rw [SX.S_len]; simp, _, h9, ?_, ?_, ?_⟩
              · rw [rowV_len, List.length_take]; exact lt_line (m := 600) (by omega)
              · intro b o e
                rw [upd_ne (ne_of_none e hD3)]
                exact s9 b o e
              · rw [upd_same, List.take_add_one, List.getElem?_eq_getElem hi3]
                unfold rowV
                rw [List.map_append, List.map_append]
                rfl
            · rintro H9 ⟨s9, h9⟩
              rw [List.take_length] at h9
              refine .inl ⟨D3, _, rfl, SqL.of h9, fun b hb => ?_⟩
              have s9b : Same H8 (upd H9 b (.tup (rowV q.2))) := s9.trans (Same.new hb)
              refine ⟨_, rfl, a, _, 1, _, rfl, rfl, SqL.of (s9b _ _ ha7), atI_nat (j := 1) rfl, 4, rfl, _, rfl, by rw [SX.S_len, lB]; exact le_line (m := 1000) (by omega), ?_⟩
              rw [cut4, dB]
              refine ⟨le_line (m := 2) (Nat.le_refl _), fun Tq hTq => ?_⟩
              have s9T := s9b.trans (Same.new (o := .tup [.ref b, .str (SX.S q.1)]) hTq)
              have hLT := s9T _ _ h7
              have nbT : b ≠ Tq := ne_of_none upd_same hTq
              have nLb : b ≠ L := fun e => by rw [e, s9 _ _ h7] at hb; cases hb
              have nLT : Tq ≠ L := fun e => by rw [e, s9b _ _ h7] at hTq; cases hTq
              refine ⟨_, hLT, ?_, qs ++ [Tq], ?_, ?_, ?_⟩
              · rw [List.length_map, paired_len pr7, List.length_take]; exact lt_line (m := 600) (by have := E.few; omega)
              · intro b' o e
                rw [upd_ne (ne_of_none e hL)]
                exact s9T _ _ (s7 b' o e)
              · rw [upd_same]; simp
              · rw [List.take_add_one, List.getElem?_eq_getElem hi2, ← hq]
                have ltup : ∀ {z : Addr} {ys : List V} {qs' : List Addr} {X : Hp}, X z = some (.tup ys) → X L = some (.lst (qs'.map V.ref)) → z ≠ L := fun h1 h2 e => by rw [e, h2] at h1; cases h1
                refine paired_append (Paired.mapP pr7 fun z q' ⟨b', e1, e2⟩ => ⟨b', ?_, ?_⟩) (.cons ⟨b, ?_, ?_⟩ .nil)
                · rw [upd_ne (ltup e1 h7)]; exact s9T _ _ e1
                · rw [upd_ne (ltup e2 h7)]; exact s9T _ _ e2
                · rw [upd_ne nLT, upd_same]
                · rw [upd_ne nLb, upd_ne nbT, upd_same]
          · rintro H7 ⟨qs, s7, h7, pr7⟩
            rw [List.take_length] at pr7
            exact kS H7 FF G L qs hrun E (s05.trans s7) h7 pr7
end
end K57
end part_K57M
section part_K57N
set_option Elab.async false
set_option linter.all false
set_option maxRecDepth 100000
set_option maxHeartbeats 4000000
/-! rules: sorted(.., key=lambda text: len(text)) -/
namespace K57
open PySem L2 PySem.W PyProof.Rows
def lenScope : Scope := { kind := .function, names := [("text", .local), ("len", .globalImplicit)], isGenerator := false, isCoroutine := false }
def lenBody (p1 p2 p3 : Pos) : Expr := .Call (.Name "len" p1) [.Name "text" p2] [] p3
/-- a turn: len of a text -/
theorem len_turn {X : Cx} {pins : List (Addr × Obj)} {σ : L2.St} {H : Hp} {s : Shared} (I : Inv X pins σ H s) (hm : X.mg "len" = none) {k : Nat} (hr : Room (k + 2) X.A) {f c' : Addr} {q : Str} {params : Arguments} {pm ctv : Value} {p1 p2 p3 : Pos}
    (hf : s.heap.get? f = some (kla_obj "<lambda>" q params (lenBody p1 p2 p3) lenScope [] pm c' ctv)) (hc : H c' = some (LamX.CodeO c' q))
    (hb : ∀ v, bindArgs (kla_fn "<lambda>" q params (lenBody p1 p2 p3) lenScope [] pm (.ref c') ctv) ⟨[v], []⟩ = pure [(Str.ofString "text", v)])
    (v : Value) (b : Str) (hv : IsS v b) (hbl : b.length ≤ sizeLine) (h : Heap) (tk : Nat) (kp : ∀ c o, s.heap.get? c = some o → h.get? c = some o) :
    wpAny (model X.prog X.w) X.A.in1.in1 (call (.ref f) [v]) (KeyPure (.int b.length) { s with heap := h, toks := tk }) (fun _ _ => False) { s with heap := h, toks := tk } := by
  obtain ⟨t, rfl⟩ := hv
  obtain ⟨⟨oc, vs, tt, hoc, hdc, hvc⟩, _, _⟩ := I.hok c' _ hc
  have hr2 := (hr.in1).in1
  refine wpAny_call ?_
  refine codeAny_mono (R := fun r s' => ∃ u, r = .ok (.ret u) ∧ KeyPure (.int b.length) { s with heap := h, toks := tk } u s') ?_ (fun r s' hq => ?_)
  · refine kla_callFunE hr2.depth (kp _ _ hf) rfl rfl rfl rfl ⟨c', oc, vs, tt, rfl, kp _ _ hoc, hdc, hvc⟩ ?_
    rw [hb]
    refine wpAny_pure (wpAny_newFunctionEnv (fun y hy => ?_) (fun y hy => ?_) (fun h₁ hns hsb => ⟨?_, ?_⟩) rfl)
    · simp only [lenScope, List.mem_cons, List.not_mem_nil, or_false] at hy
      rcases hy with rfl | rfl <;> simp
    · rw [List.mem_singleton.mp hy]; rfl
    · exact (I.nolimit.keeps kp).fresh _ hsb
    · have kp1 : ∀ c o, h.get? c = some o → h₁.get? c = some o := fun c o e => hsb.extBut c o (Nat.ne_of_lt (Heap.lt_size e)) (Heap.get?_push_of_some _ e)
      obtain ⟨mb, m1, m2⟩ := I.mod.blt
      have kb : ∀ c o, X.base.get? c = some o → h₁.get? c = some o := fun c o e => kp1 _ _ (kp _ _ (I.bk c o e))
      refine kla_codeExpr (wpAny_Call_Name_kw (Calls.Name_function_global rfl rfl (Calls.loadGlobal_builtin (I.mod.glob.keeps kb) hm (m1.keeps kb) ((m2 "len" (by decide)).trans boot_len) ?_) rfl))
      refine PyProof.Rows.callWith_builtin1 (PyProof.Rows.args_cons (wpAny_Name (wpAny_loadName_local rfl rfl hns (v := .str b t) rfl ?_) rfl) rfl) rfl rfl
      refine PyProof.Rows.args_nil (len_str (by have := sizeLine_eq; omega) ?_)
      exact ⟨_, rfl, h₁, _, rfl, fun c o e => kp1 _ _ e, .int _ _⟩
  · obtain ⟨u, rfl, hq⟩ := hq
    exact hq
/-- by length -/
def leN (a b : Str) : Bool := decide (a.length ≤ b.length)
def tSrtLen (K : PySem.W.Frag) (T : List (Addr × Str)) (te : TE) : TE := fun σ H Q => te σ H fun x H1 => ∃ (a : Addr) (xs : List Str), x = .ref a ∧ SqL K H1 a (xs.map V.str) ∧ (∀ z ∈ xs, z.length ≤ sizeLine) ∧ LamX.Tabs T H1 ∧
  ∀ H2 p, LamX.ExtN H1 H2 → LamX.Tabs T H2 → H2 p = none → Q (.ref p) (upd H2 p (.lst ((xs.mergeSort leN).map V.str)))
theorem sqL_ext {K : PySem.W.Frag} {H H' : Hp} {a : Addr} {xs : List V} (e : LamX.ExtN H H') (h : SqL K H a xs) : SqL K H' a xs := by
  rcases h with h | h
  · refine .inl ?_
    rcases h with h | ⟨o, h⟩
    · exact .inl (e _ _ h fun ps z => by cases z)
    · exact .inr ⟨o, e _ _ h fun ps z => by cases z⟩
  · exact .inr h
theorem sqT_ext {K : PySem.W.Frag} {H H' : Hp} {a : Addr} {xs : List V} (e : LamX.ExtN H H') (h : SqT K H a xs) : SqT K H' a xs := by
  rcases h with h | h
  · refine .inl ?_
    rcases h with h | ⟨o, h⟩
    · exact .inl (e _ _ h fun ps z => by cases z)
    · exact .inr ⟨o, e _ _ h fun ps z => by cases z⟩
  · exact .inr h
theorem pe_sortedLen {X : Cx} {T : List (Addr × Str)} {c P : Addr} {k : Nat} {e : Expr} {te : TE} {params : Arguments} {p lpos kpos pos p1 p2 p3 : Pos} (hg : Gl X "sorted") (hm : X.mg "sorted" = none) (hml : X.mg "len" = none) (he : PE X e te)
    (TB : LamX.TabB X.base X.mg c P) (hcode : X.env.code = .ref c) (hmT : (P, X.env.qual ++ "<lambda>") ∈ T) (hu : ∀ p ∈ T, p.1 = P → p.2 = X.env.qual ++ "<lambda>") (hr : Room (k + 2) X.A) (hdef : defaultsOf params X.env = ([], []))
    (hbind : ∀ (q : Str) (cl : List (Str × Addr)) (pm cv ctv v : Value), bindArgs (kla_fn "<lambda>" q params (lenBody p1 p2 p3) lenScope cl pm cv ctv) ⟨[v], []⟩ = pure [(Str.ofString "text", v)])
    (he1 : backTo pos (starEach [e] X.env) = (false, eval e X.env) :: backTo pos (starEach [] X.env) := by rfl) (hs : starEach [e] X.env = (false, eval e X.env) :: starEach [] X.env := by rfl) (hpl : (backTo pos (starEach [e] X.env)).any (·.1) = false := by rfl) :
    PE X (.Call (.Name "sorted" p) [e] [⟨some "key", .Lambda params (lenBody p1 p2 p3) lenScope lpos, kpos⟩] pos) (tSrtLen X.K T te) := by
  refine ⟨fun pins s σ H Q I h => ?_⟩
  refine wpAny_Call_Name_kw (ld_blt I hg hm PyProof.Rows.boot_sorted ?_)
  have ha : PA X [e] (tCons te tNil) := pa_cons he pa_nil hs
  refine PyProof.Rows.callWith_kw (thn (ha.run pos pins s σ H (fun vs H1 => match vs with
    | [x] => ∃ (a : Addr) (xs : List Str), x = .ref a ∧ SqL X.K H1 a (xs.map V.str) ∧ (∀ z ∈ xs, z.length ≤ sizeLine) ∧ LamX.Tabs T H1 ∧
      ∀ H2 p, LamX.ExtN H1 H2 → LamX.Tabs T H2 → H2 p = none → Q (.ref p) (upd H2 p (.lst ((xs.mergeSort leN).map V.str)))
    | _ => False) I h) fun us s1 ⟨vs, H1, I1, r1, q1⟩ => ?_) he1 hpl rfl rfl
  obtain ⟨x, rfl⟩ : ∃ x, vs = [x] := by
    match vs, q1 with
    | [x], _ => exact ⟨x, rfl⟩
  obtain ⟨a, xs, rfl, hq, hz, hT, q⟩ := q1
  obtain rfl := Vals.ref1 r1
  show wpAny _ _ (evalAll ((do let v ← eval (.Lambda params (lenBody p1 p2 p3) lenScope lpos) X.env; standAt pos; pure v) :: [])) _ _ s1
  refine wpAny_evalAll_cons (wpAny_bind (LamX.lam_make2 I1 TB hcode hmT hu hT hdef (fun y hy hfr => ?_) fun f c' pm ctv H2 s2 I2 eN T2 hf hfn hfr hco => wpAny_bind (wpAny_standAt (wpAny_pure (wpAny_evalAll_nil ?_)))))
  · simp only [lenScope, List.mem_cons, List.not_mem_nil, or_false] at hy
    rcases hy with rfl | rfl <;> cases hfr
  obtain ⟨its, rv, hl, hsz⟩ := I2.list (sqL_ext eN hq)
  rw [List.length_map] at hsz
  show wpAny _ _ (call (.builtin "sorted") [.ref a] [(Str.ofString "key", .ref f)]) _ _ s2
  refine sorted_key_data (bs := xs) (R := IsS) (b := false) (fun b : Str => PyData.int b.length) hl.isList (each_strs rv) (AllAlike.of fun _ _ => rfl) (Sortable.others fun b => ⟨nofun, nofun⟩) hsz (fun b _ => ?_) (ksk_s1 _ _) (fun _ => ksk_l1 _ _) (fun x => ksk_t1 f x)
    (fun v b hv hb h tk kp => len_turn I2 hml hr hf hco (fun v => hbind _ _ _ _ _ v) v b hv (hz b hb) h tk kp) fun out cc h' tk kp hnone hat hlen ho => ?_
  · have := hr.units
    show X.A.units + 2 + 0 < cLine
    omega
  rw [dataLe_int fun b : Str => (b.length : Int)] at ho
  have hle : (fun a b : Str => decide ((a.length : Int) ≤ (b.length : Int))) = leN := by
    funext a b
    unfold leN
    rw [Bool.eq_iff_iff, decide_eq_true_iff, decide_eq_true_iff]
    omega
  rw [hle] at ho
  have hnew : H2 (s2.heap.objs.size + 1) = none := I2.hok.fresh (Nat.le_succ _)
  have hl2 : ((xs.mergeSort leN).map V.str).length ≤ sizeLine := by rw [List.length_map, List.length_mergeSort]; exact hsz
  exact ⟨.ref _, upd H2 (s2.heap.objs.size + 1) (.lst ((xs.mergeSort leN).map V.str)), I2.laid (t' := tk) kp (Nat.le_succ _) ⟨hl2, out, cc, vals_each ho, hat⟩, rfl, q H2 _ eN T2 hnew⟩
end K57
end part_K57N
section part_K57O
set_option Elab.async false
set_option linter.all false
set_option maxRecDepth 100000
set_option maxHeartbeats 4000000
/-! in_order (of origins) -/
namespace K57
open PySem L2 Org PyProof.Rows
section
variable {P : Program} {w : World} {K : PySem.W.Frag} {mg : Str → Option Value} {base : Heap}
/-- a def by its body, its code known -/
theorem fnA {x : Str} {st : Stmt} {f : Addr} {fd : FuncData} {N ps : List Str} {k : Nat} {sp : Sp} (F : C8.Fun K x x st f fd) (S : FnScope N ps (C8.fnScope st)) (len : ∀ vs H Q E, sp vs H Q E → vs.length = ps.length)
    (hbody : ∀ (A : Around) (outer : List Env) (s : Shared) (H : Hp) (vs : List V) (Q : VK) (E : XK), Room k (A.deeper (envOfC x (C8.fnScope st) s.heap.objs.size f fd.code)) → sp vs H Q E →
      ∃ t, PSs (cxOf C8.CX0 P w K mg base N x (C8.fnScope st) f fd.code A outer s H E).nox (C8.fnBody st) t ∧ t { nx := fun _ H' => Q .non H', rt := Q } (L2.start N vs) H) : FnOk P w K mg base C8.CX0 (k + 1) f fd ps sp := by
  obtain ⟨oc, od, dV, kV, doc, pm, an, cdv, ct, osl, rfl, lk, hcd⟩ := F.ex
  refine fn_of lk hcd S len fun A outer s H vs Q E hr hsp => ?_
  obtain ⟨t, h, q⟩ := hbody A outer s H vs Q E hr hsp
  exact ⟨t, h.nox, q⟩
/-- the parts of a def that makes lambdas -/
structure TabOf (base : Heap) (mg : Str → Option Value) (fd : FuncData) (q : Str) (T : List (Addr × Str)) : Prop where
  ex : ∃ c P, fd.code = .ref c ∧ LamX.TabB base mg c P ∧ (P, q) ∈ T ∧ ∀ p ∈ T, p.1 = P → p.2 = q
def spInOrder (T : List (Addr × Str)) : Sp := fun vs H Q _ => ∃ (l : Addr) (xs : List Org.T), vs = [.ref l] ∧ H l = some (.lst (txts xs)) ∧ xs.length ≤ 2000000 ∧ (∀ x ∈ xs, x.length ≤ 100) ∧ LamX.Tabs T H ∧
  ∀ (H' : Hp) (r : Addr), LamX.ExtN H H' → LamX.Tabs T H' → H' r = some (.lst (txts (ord xs))) → Q (.ref r) H'
abbrev nInOrder : List Str := ["texts", "text"]
theorem scInOrder : FnScope nInOrder ["texts"] (C8.fnScope sInOrder) := C8.fnScope_by (by decide +kernel)
theorem le_lex (a b : List Nat) : (!decide (b < a)) = decide (a ≤ b) := by
  by_cases h : b < a
  · have : ¬ a ≤ b := fun q => List.not_lt.mpr q h
    simp [h, this]
  · have : a ≤ b := List.not_lt.mp h
    simp [h, this]
/-- two stable sorts are one -/
theorem two_sorts (xs : List Org.T) : (((xs.map SX.S).mergeSort leS).mergeSort leN).map (fun z => z.cps.toList) = ord xs := by
  have tN : PySem.W.TotalLe leN := ⟨fun a b c h h' => by unfold leN at *; simp only [decide_eq_true_eq] at *; omega, fun a b => by unfold leN; simp only [decide_eq_true_eq]; omega⟩
  have tS : PySem.W.TotalLe leS := ⟨fun a b c h h' => decide_eq_true (Std.le_trans (of_decide_eq_true h) (of_decide_eq_true h')), fun a b => by
    unfold leS
    rw [decide_eq_true_iff, decide_eq_true_iff]
    exact Std.le_total⟩
  apply ord_eq
  · have h := ((List.mergeSort_perm ((xs.map SX.S).mergeSort leS) leN).trans (List.mergeSort_perm (xs.map SX.S) leS)).map fun z : Str => z.cps.toList
    rw [List.map_map (f := SX.S)] at h
    have e : ((fun z : Str => z.cps.toList) ∘ SX.S) = id := by funext l; simp [SX.S]
    rwa [e, List.map_id] at h
  · rw [List.pairwise_map, List.pairwise_iff_forall_sublist]
    intro a b hab
    have h1 : leN a b = true := (List.pairwise_iff_forall_sublist.mp (PySem.W.sort_pairwise tN _)) hab
    have h1 : a.length ≤ b.length := of_decide_eq_true h1
    have la : a.cps.toList.length = a.length := by simp [Str.length]
    have lb : b.cps.toList.length = b.length := by simp [Str.length]
    have go : ¬ ltT b.cps.toList a.cps.toList → leT a.cps.toList b.cps.toList = true := fun n => by unfold leT; rw [decide_eq_false n]; rfl
    apply go
    unfold ltT
    rw [la, lb]
    rcases Nat.lt_or_ge a.length b.length with hlt | hge
    · rintro (q | ⟨q, _⟩) <;> omega
    · have sub := hab.filter (PySem.W.sameRank leN a)
      rw [PySem.W.sort_stable tN] at sub
      have ra : PySem.W.sameRank leN a a = true := PySem.W.sameRank_self tN a
      have rb : PySem.W.sameRank leN a b = true := by
        unfold PySem.W.sameRank leN
        simp only [Bool.and_eq_true, decide_eq_true_eq]
        omega
      rw [List.filter_cons_of_pos ra, List.filter_cons_of_pos rb, List.filter_nil] at sub
      have h2 := (List.pairwise_iff_forall_sublist.mp (PySem.W.sort_pairwise tS (xs.map SX.S))) (sub.trans List.filter_sublist)
      have h2 : a.cps.toList ≤ b.cps.toList := of_decide_eq_true h2
      rintro (q | ⟨_, q⟩)
      · omega
      · exact List.not_lt.mpr h2 q
theorem two_sorts' (xs : List Org.T) : ((xs.map SX.S).mergeSort leS).mergeSort leN = (ord xs).map SX.S := by
  rw [← two_sorts, List.map_map]
  conv => lhs; rw [← List.map_id (((xs.map SX.S).mergeSort leS).mergeSort leN)]
  apply List.map_congr_left
  intro z _
  exact (SX.S_tl z).symm
theorem fn_in_order {f : Addr} {fd : FuncData} {T : List (Addr × Str)} (F : C8.Fun K "in_order" "in_order" sInOrder f fd) (Tx : Txt K mg) (TO : TabOf base mg fd ("in_order.<locals>.<lambda>") T) : FnOk P w K mg base C8.CX0 3 f fd ["texts"] (spInOrder T) := by
  obtain ⟨c, Pt, hcode, TB, hmT, hu0⟩ := TO.ex
  refine fnA F scInOrder (fun vs H Q E h => ?_) (fun A outer s H vs Q E hr h => ?_)
  · obtain ⟨l, xs, rfl, _⟩ := h
    rfl
  · obtain ⟨l, xs, rfl, hl, hxl, hxs, hT, k⟩ := h
    have hu := hu_of hr
    refine ⟨_, pss_one (ps_ret (pe_sortedLen (T := T) (c := c) (P := Pt) (k := 0) (by rfl) Tx.sorted Tx.len (pe_callB (cr_sortedN (Nat.lt_of_le_of_lt (Nat.add_le_add_left (by decide) _) hr.units)) (by rfl) Tx.sorted PyProof.Rows.boot_sorted
      (pa_cons (pe_lc (own := [("text", 1)]) (g := gName 1) (tt := tYes) rfl scInOrder.nd (pi_list (pv 0)) (blkOk_by (N := nInOrder) (sc := C8.fnScope sInOrder) (by decide +kernel))
            (fun _ _ _ _ _ => pg_name (i := 1) scInOrder.nd rfl (Or.inl rfl)) (fun _ _ _ _ _ => pts_nil) (fun _ _ _ _ _ => pe_callTy SkE.call_str_str (by rfl) Tx.str (by decide +kernel) (pa_cons (pv 1) pa_nil))) pa_nil))
      TB hcode hmT hu0 hr rfl (fun _ _ _ _ _ _ => rfl))), ?_⟩
    refine ⟨_, rfl, l, rfl, ⟨_, SqL.of hl⟩, ?_⟩
    intro D hD
    refine lc_n (n := xs.length) (fun i H7 => Same H H7 ∧ H7 D = some (.lst (txts (xs.take i)))) ⟨Same.new hD, by rw [upd_same]; rfl⟩ (fun i H7 hi ⟨s7, _⟩ => ⟨_, .str (SX.S xs[i]), SqL.of (s7 _ _ hl), by simp [txts, hi]⟩) (fun H7 ⟨s7, _⟩ => ⟨_, SqL.of (s7 _ _ hl), by rw [txts_len]; exact Nat.le_refl _⟩) ?_ ?_
    · rintro i H7 hi ⟨s7, h7⟩ x H8 ⟨rfl, hx⟩
      have hx := hx _ (SqL.of (s7 _ _ hl))
      have ex : x = .str (SX.S xs[i]) := by
        have : (txts xs)[i]? = some (.str (SX.S xs[i])) := by simp [txts, hi]
        exact Option.some.inj (hx.symm.trans this)
      subst ex
      refine ⟨rfl, _, rfl, _, rfl, _, h7, ?_, ?_, ?_⟩
      · rw [txts_len, List.length_take]; exact lt_line (m := 2000000) (by omega)
      · intro b o e
        rw [upd_ne (ne_of_none e hD)]
        exact s7 b o e
      · rw [upd_same, List.take_add_one, List.getElem?_eq_getElem hi, txts_app]
        rfl
    · rintro H7 ⟨s7, h7⟩
      rw [List.take_length] at h7
      refine ⟨D, xs.map SX.S, rfl, SqL.of (by rw [h7]; simp [txts]), fun p hp => ?_⟩
      have s7p := s7.trans (Same.new (o := .lst (((xs.map SX.S).mergeSort leS).map V.str)) hp)
      refine ⟨p, _, rfl, SqL.of upd_same, fun z hz => ?_, hT.ext s7p, fun H2 r eN T2 hr2 => ?_⟩
      · have := (List.mergeSort_perm (xs.map SX.S) leS).mem_iff.mp hz
        obtain ⟨y, hy, rfl⟩ := List.mem_map.mp this
        rw [SX.S_len]
        exact le_line (m := 100) (hxs y hy)
      · rw [two_sorts']
        have e2 : LamX.ExtN H (upd H2 r (.lst (((ord xs).map SX.S).map V.str))) := fun b o e n => by
          have := (LamX.ExtN.of s7p).trans eN b o e n
          rw [upd_ne (ne_of_none this hr2)]
          exact this
        exact k _ r e2 (T2.ext (Same.new hr2)) (by rw [upd_same]; simp [txts])
end
end K57
end part_K57O
section part_K57S
set_option Elab.async false
set_option linter.all false
set_option maxRecDepth 100000
set_option maxHeartbeats 4000000
/-! TooMany(..): its own __init__ with super() -/
namespace K57
open PySem L2 PySem.W PySem.Calls PyProof.Rows
abbrev sTooI : Stmt := inClass (top 17) 0
structure TooC (prog : Program) (K : PySem.W.Frag) (mg : Str → Option Value) (C fI : Addr) : Prop where
  ox : OexC K C
  iC : findIn K (.ref C) "__init__" = some (some (.ref fI))
  tI : typeIn K (.ref fI) = some (.type "function")
  gC : mg "TooMany" = some (.ref C)
  sup : mg "super" = none
  op : nsIn K cStatics "thirdparty.any" = some none
  sub : mroIn K C (.ref C) = some true
  subV : subIn K (.ref C) (.type "ValueError") = some true
  htop : (prog.main.scope.names.lookup ("super" : Str)).isSome = false
  w1 : findIn K (.ref C) "what" = some none
  w2 : findIn K (.ref C) "most" = some none
  fn : ∃ (cc cda : Addr) (oc : Value) (od : Option Addr) (doc pm ct : Value) (an : Option Addr) (osl : Array (Option Value)) (ccl : Value) (cdd : Option Addr) (vs : Array Value) (ccs : Array (Option Value)) (file : Str) (tf : Tok) (cl : Value) (cld : Option Addr) (csl : Array (Option Value)) (cd : ClassData),
    K.lookup fI = some ⟨oc, od, .func (fnX "__init__" "TooMany.__init__" (C8.fnArgs sTooI) (C8.fnBody sTooI) (C8.fnScope sTooI) [("__class__", cc)] .none .none doc pm an (.ref cda) ct), osl⟩ ∧ codeIn K (.ref cda) "TooMany.__init__" = true ∧
    K.lookup cda = some ⟨ccl, cdd, .fields vs, ccs⟩ ∧ vs[2]? = some (.str file tf) ∧ ((prog.main.file : Str) == file) = true ∧ K.lookup cc = some ⟨cl, cld, .cell (some (.ref C)), csl⟩ ∧ clsIn K C = some cd ∧
    alongIn K "__init__" ((cd.mro.dropWhile (· != .ref C)).drop 1) = some (some (.builtin "ValueError.__init__"))
def spTooI (C : Addr) : Sp := fun vs H Q _ => ∃ (a : Addr) (x y : V), vs = [.ref a, x, y] ∧ H a = some (exo a C none) ∧ ∀ dx H', H dx = none → dx ≠ a → H' = upd (upd (upd H dx (exd dx [("what", x)])) a (exo a C (some dx))) dx (exd dx [("most", y), ("what", x)]) → Q .non H'
abbrev nTooI : List Str := ["self", "what", "most", "__class__"]
theorem scTooI : NdefX.NScope nTooI ["self", "what", "most"] ["__class__"] (C8.fnScope sTooI) := NdefX.nscope_by (by decide +kernel)
section
variable {P : Program} {w : World} {K : PySem.W.Frag} {mg : Str → Option Value} {base : Heap} {C fI : Addr}
/-- super().__init__(text), laid out: nothing of it is told -/
theorem init_super {X : Cx} {pins : List (Addr × Obj)} {σ : L2.St} {H : Hp} {s : Shared} {a u : Addr} {us : List Value} {Q : Value → Shared → Prop} (T : OexC X.K C) (I : L2.Inv X pins σ H s) (e : H a = some (exo a C none)) (hu : s.heap.get? u = some (kxs_mw "ValueError.__init__" a)) (hl : us.length ≤ sizeLine)
    (h : ∀ s', L2.Inv X pins σ H s' → Q .none s') : wpAny (model X.prog X.w) X.A (call (.ref u) us) Q X.xe s := by
  obtain ⟨nm, q, N, bs, bm, sn, sub, ab, col, dd, k0, k1, k2, k3, k5, hC, hbm⟩ := T.cls
  obtain ⟨t1, ho⟩ := exo_at I.hok e
  obtain ⟨hh, g, d, tk, os⟩ := s
  refine wpAny_call (codeAny_of_tree ?_)
  show wpAny _ X.A.in1 (callAny (.ref u) ⟨us, []⟩) _ _ _
  simp only [callAny]
  refine wpAny_bind (wpAny_load hu ?_)
  simp only [kxs_mw, show (Value.type "method-wrapper" == Value.type "method" || Value.type "method-wrapper" == Value.type "builtin_function_or_method" || Value.type "method-wrapper" == Value.type "method-wrapper") = true by decide, if_true]
  refine KFB.if_so (by decide) ?_
  refine wpAny_bind (check_bound_init F.excBase_ValueError.toExcCallFacts (I.kIn _ _ hC) ho rfl ?_)
  refine wpAny_bind (wpAny_pure (wpAny_pure ?_))
  refine ⟨plainId_quiet F.excBase_ValueError.init.plain _, codeAny_builtin F.excBase_ValueError.initEntry ?_⟩
  refine exc_init_tree (cls := .ref C) (t0 := t1) (dv := none) (c2 := .none) (c3 := .none) (b4 := .bool false) ho hl (fun h' k hx ht => ?_)
  have J := I.write (t' := tk) (x := a) (e := a) (o := exo a C none) (by rw [e]; exact True.intro) (.inl rfl) k ⟨_, hx⟩ (exo_ok hx)
  have eu : upd H a (exo a C none) = H := by
    funext b
    by_cases hb : b = a
    · rw [hb, upd_same, e]
    · rw [upd_ne hb]
  rw [eu] at J
  exact h _ J
theorem fn_tooI (T : TooC P K mg C fI) : ∃ fd : FuncData, fd.defaults = .none ∧ (∃ oc od osl, K.lookup fI = some ⟨oc, od, .func fd, osl⟩) ∧ L2.Binds K fd ["self", "what", "most"] [] ∧ FnOk P w K mg base C8.CX0 3 fI fd ["self", "what", "most"] (spTooI C) := by
  obtain ⟨cc, cda, oc, od, doc, pm, ct, an, osl, ccl, cdd, vsc, ccs, file, tf, cl, cld, csl, cd, lk, hcd, lkc, hvs, hfile, lkcell, hcls, halong⟩ := T.fn
  refine ⟨_, rfl, ⟨oc, od, osl, lk⟩, .all fun us hl => match us, hl with | [_, _, _], _ => rfl, ⟨fun vs H Q E h => ?_, fun A outer s H args us vs Q E hr e0 hb r hsp => ?_⟩⟩
  · obtain ⟨a, x, y, rfl, _⟩ := h
    rfl
  obtain ⟨a, x, y, rfl, ha, k⟩ := hsp
  obtain ⟨u1, u2, rfl⟩ : ∃ u1 u2, us = [.ref a, u1, u2] := by
    cases r with
    | @cons _ u0 _ us1 r0 rr =>
      obtain rfl : u0 = Value.ref a := r0
      obtain ⟨u1, u2, rfl, _, _⟩ := vals2 rr
      exact ⟨u1, u2, rfl⟩
  have KX : K.In s.heap := e0.mod.kin.keeps fun b o e => (e0.bs b o e).1
  have lim : s.heap.NoLimit := e0.mod.nolimit.keeps fun b o e => (e0.bs b o e).1
  let F : NdefX.NF := ⟨"__init__", "TooMany.__init__", C8.fnArgs sTooI, C8.fnBody sTooI, C8.fnScope sTooI, [("__class__", cc)], cda⟩
  have hcc : H cc = none := (e0.bs cc _ (e0.mod.kin _ _ lkcell)).2
  have CA : NdefX.CellsAt F.cl ["__class__"] [none] s.heap H := by
    have one : ∀ y c, F.cl.lookup y = some c → y = "__class__" ∧ c = cc := fun y c e => by
      have e : List.lookup y [(("__class__" : Str), cc)] = some c := e
      have := PySem.mem_of_lookup e
      rw [List.mem_singleton] at this
      cases this
      exact ⟨rfl, rfl⟩
    refine ⟨rfl, fun y c e => ?_, fun x y c e1 e2 => ?_, fun i y hi => ?_⟩
    · obtain ⟨_, rfl⟩ := one y c e
      exact ⟨hcc, _, _, KX _ _ lkcell, rfl⟩
    · rw [(one x c e1).1, (one y c e2).1]
    · match i, hi with
      | 0, hi =>
        cases hi
        exact ⟨cc, rfl, fun v hv => by cases hv⟩
      | i + 1, hi => simp at hi
  refine ks_codeAny_call_defAt (body := C8.fnBody sTooI) (binds := (["self", "what", "most"] : List Str).zip [.ref a, u1, u2]) hr.depth (KX _ _ lk) rfl lim (codeRec_of KX hcd) rfl hb scTooI.nocell (fun y hy => scTooI.par y.1 (List.of_mem_zip hy).1) (fun h₁ hns kp => ?_) scTooI.co scTooI.gen scTooI.kind
  have I : L2.Inv (NdefX.ncx C8.CX0 P w K mg base nTooI F fI A outer s H E) [] (NdefX.startF nTooI [.ref a, x, y] [none]) H { s with heap := h₁, toks := s.toks + ((["self", "what", "most"] : List Str).zip [Value.ref a, u1, u2]).length } :=
    NdefX.inv_startN scTooI hr.hd e0 rfl r CA hns kp
  have K1 : K.In h₁ := KX.keeps kp
  obtain ⟨t1, hx1⟩ := exo_at I.hok ha
  have hx1 : h₁.get? a = _ := hx1
  obtain ⟨oD, hD1, hD2⟩ : ∃ oD, h₁.get? C = some oD ∧ oD.data = .cls cd := by
    unfold clsIn at hcls
    split at hcls
    · rename_i c d cd' sl ho
      cases hcls
      exact ⟨_, K1 _ _ ho, rfl⟩
    · cases hcls
  have II : InstAt h₁ a { cls := .ref C, dict := none, data := .fields #[.ref t1, .none, .none, .none, .bool false, .none] } C none := ⟨hx1, rfl, rfl, trivial⟩
  obtain ⟨mb, m1, m2⟩ := e0.mod.blt
  have kb : ∀ c o, base.get? c = some o → h₁.get? c = some o := fun c o e => kp _ _ (e0.bs c o e).1
  refine ks_wpAt_execs_cons (ks_wpAt_Expr_any (ks_wpAt_MethodCall (ks_wpAt_super_base (f := fI) rfl rfl rfl rfl (K1 _ _ lk) rfl rfl rfl (K1 _ _ lkc) rfl hvs hfile T.htop ?_) rfl) rfl rfl)
  refine ks_loadName_global rfl rfl (Calls.loadGlobal_builtin (e0.mod.glob.keeps kb) T.sup (m1.keeps kb) ((m2 "super" (by decide)).trans (by decide +kernel)) ⟨rfl, ?_⟩)
  refine wpAny_loadName_free rfl rfl rfl ⟨_, K1 _ _ lkcell, rfl⟩ ?_
  refine wpAny_loadName_local rfl rfl hns rfl ?_
  refine ks_wpAny_isType_cls hD1 hD2 ⟨rfl, ?_⟩
  refine ks_wpAny_call_super hD1 hD2 hx1 rfl (fun c e => by cases e) (looks_mroIn K1 T.sub) (fun h2 e2 k2 => ?_)
  have K2 : K.In h2 := K1.keeps k2
  have II2 : InstAt h2 a { cls := .ref C, dict := none, data := .fields #[.ref t1, .none, .none, .none, .bool false, .none] } C none := ⟨k2 _ _ hx1, rfl, rfl, trivial⟩
  refine kxs_getMethod kxs_ValueError e2 (looks_opaque K2 T.op) (l₀ := cd.mro) (fun A Q E s k q => wpAny_bind ((looks_clsIn K2 hcls) A _ E s k (wpAny_pure q))) rfl K2 halong (II2.type.andThen (looks_subIn K2 T.subV)) (ks_ne K2 II2 hcls) rfl ?_
  have k3 : ∀ b o, h₁.get? b = some o → (h2.push (kxs_mw "ValueError.__init__" a)).get? b = some o := fun b o e => Heap.get?_push_of_some _ (k2 _ _ e)
  refine kxs_callWith (i := "ValueError.__init__") (x := a) rfl (Calls.evalArgs_plain (PyProof.Rows.args_cons (Calls.Constant_str (PyProof.Rows.args_nil ⟨?_, ?_⟩)) rfl))
  · exact Heap.get?_push_at rfl rfl
  refine init_super (X := NdefX.ncx C8.CX0 P w K mg base nTooI F fI A outer s H E) (pins := []) (σ := NdefX.startF nTooI [.ref a, x, y] [none]) (H := H) T.ox (I.kept k3) ha (Heap.get?_push_at rfl rfl) (le_line (m := 1) (Nat.le_refl _)) fun s' J => ?_
  show _root_.PySem.wpAt _ _ _ (execs (List.drop 1 (C8.fnBody sTooI)) _) _ _ _
  refine wpAt_of_wpAny ?_
  have body : PSs (NdefX.ncx C8.CX0 P w K mg base nTooI F fI A outer s H E) (List.drop 1 (C8.fnBody sTooI)) _ := pss_cons (ps_ost (pv 0) (pv 1)) (pss_one (ps_ost (pv 0) (pv 2)))
  refine wpAny_mono (body.run [] s' (NdefX.startF nTooI [.ref a, x, y] [none]) H { nx := fun _ H' => Q .non H', rt := Q } J ?_) (fun fl s'' hs => ?_) fun e s'' hs => hs
  · refine ⟨_, rfl, _, rfl, a, C, rfl, T.ox, T.w1, .inl ⟨ha, fun dx hdx ndx => ?_⟩⟩
    refine ⟨_, rfl, _, rfl, a, C, rfl, T.ox, T.w2, .inr ⟨dx, _, upd_same, by rw [upd_ne ndx, upd_same], by simp, ?_⟩⟩
    exact k dx _ hdx ndx rfl
  have fin : ∀ {σ' : L2.St} {H' : Hp} {v : V} {u : Value}, L2.Inv (NdefX.ncx C8.CX0 P w K mg base nTooI F fI A outer s H E) [] σ' H' s'' → L2.RelV v u → Q v H' → CE outer P w H s Q u s'' :=
    fun {σ' H' v u} J rv q => ⟨v, H', J.os, J.bare, J.base, J.hok, rv, q⟩
  cases fl with
  | ret u =>
    obtain ⟨v, σ', H', J, rv, q⟩ := hs
    exact fin J rv q
  | next =>
    obtain ⟨σ', H', J, q⟩ := hs
    exact fin (v := V.non) (u := Value.none) J rfl q
  | brk =>
    obtain ⟨_, _, _, q⟩ := hs
    exact False.elim q
  | cont =>
    obtain ⟨_, _, _, q⟩ := hs
    exact False.elim q
end
end K57
end part_K57S
section part_K57T
set_option Elab.async false
set_option linter.all false
set_option maxRecDepth 100000
set_option maxHeartbeats 4000000
/-! rule: except X as n: .., the exception known behind it -/
namespace K57
open PySem L2 PySem.Spec PyProof.Rows
/-- at a: an exception of the class cls, its dict d -/
def HeldE (a : Addr) (cls : Value) (d : Option Addr) : HO := .ext fun h => ∃ oe, h.get? a = some oe ∧ Zc cls d oe ∧ ∃ vs, oe.data = .fields vs
theorem heldE_at {P : Program} {w : World} {H : Hp} {h : Heap} {a : Addr} {cls : Value} {d : Option Addr} (hok : HOk P w H h) (e : H a = some (HeldE a cls d)) : ∃ oe, h.get? a = some oe ∧ Zc cls d oe ∧ ∃ vs, oe.data = .fields vs := by
  have x : ObjOk P w H h a (.ext fun h => ∃ oe, h.get? a = some oe ∧ Zc cls d oe ∧ ∃ vs, oe.data = .fields vs) := hok a _ e
  exact x.1
/-- the exception's object is told -/
theorem inv_held {X : Cx} {pins : List (Addr × Obj)} {σ : L2.St} {H : Hp} {s : Shared} {a : Addr} {oe : Obj} {cls : Value} {d : Option Addr} (I : L2.Inv X pins σ H s) (he : s.heap.get? a = some oe) (hz : Zc cls d oe) (hf : ∃ vs, oe.data = .fields vs) (na : H a = none) (nL : a ≠ X.env.locals)
    (n0 : X.s_0.heap.get? a = none) (np : ∀ p ∈ X.pn ++ pins, p.1 ≠ a) : L2.Inv X pins σ (upd H a (HeldE a cls d)) s := by
  obtain ⟨vs, hd⟩ := hf
  have nt : ∀ {b : Addr} {o : HO}, H b = some o → b ≠ a := fun {b o} e => ne_of_none e na
  refine ⟨I.ok, I.os, I.bare, ⟨I.base.keep, I.base.slot, fun b o e n hx => ?_, I.base.there, fun b xs e => ?_, fun b o u e => ?_, fun b ps e => ?_⟩, I.loc, I.cell, by rw [upd_ne nL.symm]; exact I.free, fun x c e => ?_, fun p hp => ?_, fun b o e => ?_, I.len⟩
  · have : b ≠ a := fun z => by rw [z, n0] at e; cases e
    rw [upd_ne this]; exact I.base.free b o e n hx
  · have q := I.base.tups b xs e
    rw [upd_ne (nt q)]; exact q
  · have q := I.base.frzs b o u e
    rw [upd_ne (nt q)]; exact q
  · obtain ⟨more, q⟩ := I.base.tbls b ps e
    exact ⟨more, by rw [upd_ne (nt q)]; exact q⟩
  · have : c ≠ a := fun z => by
      obtain ⟨v, o, ho, hdc⟩ := I.cell x c e
      rw [z, he] at ho
      cases ho
      rw [hd] at hdc
      cases hdc
    rw [upd_ne this]; exact I.freeC x c e
  · obtain ⟨p1, p2, p3, p4, p5⟩ := I.pin p hp
    exact ⟨p1, by rw [upd_ne (np p hp)]; exact p2, p3, p4, p5⟩
  · by_cases hb : b = a
    · rw [hb, upd_same] at e
      cases e
      rw [hb]
      refine ⟨⟨oe, he, hz, vs, hd⟩, ⟨oe, he⟩, fun h1 h2 z k => ?_⟩
      obtain ⟨o2, q1, q2, q3⟩ := z
      exact ⟨o2, k _ q1, q2, q3⟩
    · rw [upd_ne hb] at e
      exact (I.hok b o e).stay (fun c v hc z => z) (fun c hc => by rw [upd_ne (nt hc)]; exact hc) (fun c xs hc => by rw [upd_ne (nt hc)]; exact hc)
/-- .. as n: suite, its class always the clause's -/
def wKeep (K : PySem.W.Frag) (c : Value) (i : Nat) (ts : Addr → Value → Option Addr → TS) (D : Ends) : WX := fun cls d σ H =>
  PySem.W.exmOne K cls c = some true ∧ ∀ a, H a = none → ts a cls d { nx := fun σ' H' => D.nx (σ'.set i none) (upd H' a (HeldE a cls d)), rt := fun _ _ => False, bk := fun _ _ => False, ct := fun _ _ => False } (σ.set i (some (.ref a))) H
section
variable {X : Cx} {x n : Str} {c : Value} {i : Nat} {body suite : List Stmt} {b₀ : Stmt} {np pos pos' : Pos} {tb : WX → TS} {ts : Addr → Value → Option Addr → TS}
theorem ps_try_keep (hx0 : X.ex = []) (hs : X.stack = X.env :: X.outer) (hf : X.env.frame = some X.env.locals) (hN : X.N.Nodup) (hi : X.N[i]? = some n) (hln : X.env.kindOf n = some .local) (hc : Names X x c)
    (hb : ∀ (W : WX) (pn : List (Addr × Obj)) (xe : Value → Shared → Prop), Takes (X.tr pn xe) W → PassesOwn (model X.prog X.w) X.A X.env xe → PSs (X.tr pn xe) body (tb W))
    (hsu : ∀ (a : Addr) (oe : Obj) (cls : Value) (d : Option Addr) (pn : List (Addr × Obj)), Zc cls d oe → (∃ vs, oe.data = .fields vs) → PSs (X.suite a ((a, oe) :: pn)) (b₀ :: suite) (ts a cls d)) :
    PS X (.Try body [.ExceptHandler (some (.Name x np)) (some n) (b₀ :: suite) pos'] [] [] pos) (fun D σ H => tb (wKeep X.K c i ts D) D σ H) := by
  refine ⟨fun pins s σ H D I h => ?_⟩
  have ok := I.ok
  have frames : X.A.frames = some (X.env :: X.outer) := by rw [ok.frames, hs]
  refine wpAny_Try_except (wpAny_mono ((hb (wKeep X.K c i ts D) (X.pn ++ pins) (fun e s₁ => wpAny (model X.prog X.w) X.A (noteFrame e X.env) (fun _ s₂ => wpAny (model X.prog X.w) X.A (setFlight e none) (fun _ s₃ =>
    wpAny (model X.prog X.w) X.A (handleBy e X.env [.ExceptHandler (some (.Name x np)) (some n) (b₀ :: suite) pos']) (SP X pins D) X.xe s₃) X.xe s₂) X.xe s₁) (fun u s' xx => ?_) PassesOwn.looking).run [] s σ H D (I.toTry _) h) (fun f s1 hsp => ?_) (fun e s1 he => he))
  · obtain ⟨a, B, sI, pins', σ', H', cls, d, rfl, J', nb, up, sky, na, os, ag, hyes, hsuite⟩ := xx
    have J : L2.Inv X pins σ' H' sI := J'.ofTry ok
    refine Sky.land Zc.steady frames hf (by rw [← hs]; exact sky) fun h3 fl3 up3 => ?_
    obtain ⟨oe3, vs3, he3, hz3, hd3⟩ := fl3.there
    have far : a ∉ frs (X.env :: X.outer) := fun hm => by
      obtain ⟨_, o', e', hnf⟩ := fl3.2.2.1.mem hm
      rw [he3] at e'
      cases e'
      exact hnf _ hd3
    have nL : a ≠ X.env.locals := fun z => far (List.mem_filterMap.mpr ⟨X.env, List.mem_cons_self, by rw [hf, z]⟩)
    have nF : a ∉ X.fs := fun hm => by
      obtain ⟨e, he, q⟩ := List.mem_filterMap.mp hm
      exact far (List.mem_filterMap.mpr ⟨e, List.mem_cons_of_mem _ he, q⟩)
    have nI : ∀ b o, sI.heap.get? b = some o → b ≠ a := fun b o e z => by
      have q := nb b o e (by rw [z, hs]; exact far)
      rw [z, fl3.2.1] at q
      cases q
    have n0 : X.s_0.heap.get? a = none := by
      cases e0 : X.s_0.heap.get? a with
      | none => rfl
      | some o =>
        have hex : a ∉ X.ex := by rw [hx0]; simp
        obtain ⟨o', e1⟩ := J.base.there a o e0 hex
        exact absurd rfl (nI a o' e1)
    have npin : ∀ p ∈ X.pn ++ pins, p.1 ≠ a := fun p hp => nI _ _ (J.pin p hp).1
    have J3 : L2.Inv X pins σ' H' { s' with heap := h3 } := J.landed nb fl3.1 (up.trans up3) os ag
    have S3 := J3.suite he3 hd3 na nL nF
    refine wpAny_handleBy_cons (codeAny_handlers_test ?_) (by intro q; cases q)
    have LM := PySem.W.exm_one (M := model X.prog X.w) S3.kIn (fun A Q E s k q => wpAny_typeOf_ref (k _ _ he3) (by rw [hz3.1]; exact q)) hyes
    have test : ∀ {Q : Value → Shared → Prop} {E : Value → Shared → Prop}, Q c { s' with heap := h3 } → wpAny (model X.prog X.w) (X.A.mark (some (.ref a))) (eval (.Name x np) X.env) Q E { s' with heap := h3 } := fun {Q E} q => by
      obtain ⟨hg, hdbg, hm | ⟨hm, hv, hnn⟩⟩ := hc
      · exact ld_glob (X := X.suite a ((a, oe3) :: (X.pn ++ pins))) S3 hg hm q hdbg
      · exact ld_blt (X := X.suite a ((a, oe3) :: (X.pn ++ pins))) S3 hg hm hv q hnn hdbg
    refine test (LM.here (codeAny_handlers_suite_as (HandSPX.lands_againZ fl3 fun h4 fl4 up4 => ?_)))
    obtain ⟨oe4, vs4, he4, hz4, hd4⟩ := fl4.there
    have J4 : L2.Inv X pins σ' H' { s' with heap := h4 } := J.landed nb fl4.1 ((up.trans up3).trans up4) os ag
    have S4 := J4.suite he4 hd4 na nL nF
    refine store_ok (X := X.suite a ((a, oe4) :: (X.pn ++ pins))) (v := .ref a) S4 hN hi (.inl hln) rfl (fun s5 S5 => ?_) (.inr hln)
    refine wpAny_mono ((hsu a oe4 cls d (X.pn ++ pins) hz4 ⟨_, hd4⟩).run [] s5 _ H' _ S5 (hsuite a na)) (fun f s6 hsp => ?_) (fun _ _ z => False.elim z)
    cases f with
    | next =>
      obtain ⟨σ6, H6, S6, q6⟩ := hsp
      obtain ⟨p1, p2, _⟩ := S6.pin (a, oe4) (List.mem_append_left _ List.mem_cons_self)
      exact gone_ok (inv_held (S6.unsuite ok) p1 hz4 ⟨_, hd4⟩ p2 nL n0 npin) hN hi hln fun s7 J7 => ⟨_, _, J7, q6⟩
    | brk =>
      obtain ⟨σ6, H6, S6, q6⟩ := hsp
      exact q6.elim
    | cont =>
      obtain ⟨σ6, H6, S6, q6⟩ := hsp
      exact q6.elim
    | ret u =>
      obtain ⟨v6, σ6, H6, S6, r6, q6⟩ := hsp
      exact q6.elim
  · cases f with
    | next =>
      obtain ⟨σ', H', J', q⟩ := hsp
      exact wpAny_execs_nil ⟨σ', H', J'.ofTry ok, q⟩
    | brk =>
      obtain ⟨σ', H', J', q⟩ := hsp
      exact ⟨σ', H', J'.ofTry ok, q⟩
    | cont =>
      obtain ⟨σ', H', J', q⟩ := hsp
      exact ⟨σ', H', J'.ofTry ok, q⟩
    | ret u =>
      obtain ⟨v, σ', H', J', r, q⟩ := hsp
      exact ⟨v, σ', H', J'.ofTry ok, r, q⟩
end
end K57
end part_K57T
section part_K57U
set_option Elab.async false
set_option linter.all false
set_option maxRecDepth 100000
set_option maxHeartbeats 4000000
/-! rules: isinstance and a field of an exception that is known -/
namespace K57
open PySem L2 PySem.Spec PyProof.Rows
theorem heldE_inst {X : Cx} {pins : List (Addr × Obj)} {σ : L2.St} {H : Hp} {s : Shared} {a D dd : Addr} {fs : List (Str × V)} (I : L2.Inv X pins σ H s) (ha : H a = some (HeldE a (.ref D) (some dd))) (hd : H dd = some (.xd fs)) :
    ∃ (oe od : Obj), PySem.W.InstAt s.heap a oe D (some od) ∧ ∃ mA : Str → Option Value, (∀ n, PySem.W.lookIn n od = some (mA n)) ∧ ∀ f, RelO (fs.lookup f) (mA f) := by
  obtain ⟨oe, he, hz, vs, hv⟩ := heldE_at I.hok ha
  have hx : ObjOk X.prog X.w H s.heap dd (.xd fs) := I.hok dd _ hd
  obtain ⟨mA, hns, hr⟩ := hx
  obtain ⟨od, ho, hl⟩ := lookIn_ns hns
  exact ⟨oe, od, ⟨he, hz.1, by unfold PySem.W.notCls; rw [hv] <;> rfl, by rw [hz.2]; exact ho⟩, mA, hl, hr⟩
theorem call_isHeld {X : Cx} {D : Addr} (C : ExcC X.K D) (k1 : PySem.W.kitOne X.K (.ref D) (.ref D) = some true) : CallR X (.builtin "isinstance") (fun xs H Q => ∃ (a dd : Addr) (fs : List (Str × V)), xs = [.ref a, .ref D] ∧ H a = some (HeldE a (.ref D) (some dd)) ∧ H dd = some (.xd fs) ∧ Q (.bl true) H) := by
  intro pins s σ H xs us Q I r h
  obtain ⟨a, dd, fs, rfl, ha, hd, q⟩ := h
  obtain ⟨u, w', rfl, ru, rw'⟩ := vals2 r
  cases ru
  cases rw'
  obtain ⟨oe, od, J, _⟩ := heldE_inst I ha hd
  obtain ⟨cd, hcd, _⟩ := PySem.W.any_some C.hd
  exact PySem.W.kia_one (PySem.W.kitx_exc (by rw [hcd]; rfl) C.hg C.hk C.hs C.ha C.hn C.ht C.hm) I.kIn J k1 (fun z => nomatch z) fun tk => ⟨.bl true, H, I.kept (t' := tk) fun _ _ z => z, rfl, q⟩
/-- e.n -/
def tHeld (C : Addr) (n : Str) (te : TE) : TE := fun σ H Q => te σ H fun x H1 => ∃ (a dd : Addr) (fs : List (Str × V)) (v : V), x = .ref a ∧ H1 a = some (HeldE a (.ref C) (some dd)) ∧ H1 dd = some (.xd fs) ∧ fs.lookup n = some v ∧ Q v H1
theorem pe_held {X : Cx} {C : Addr} {e : Expr} {te : TE} {pos : Pos} {n : Str} (T : XfC X.K C) (hno : PySem.W.findIn X.K (.ref C) n = some none) (he : PE X e te) (hb : attributeBase e n X.env (eval e X.env) = eval e X.env := by rfl) : PE X (.Attribute e n pos) (tHeld C n te) := by
  refine ⟨fun pins s σ H Q I h => ?_⟩
  refine attr_of hb (thn (he.run pins s σ H _ I h) fun u s1 hh => ?_)
  obtain ⟨x, H1, I1, rx, a, dd, fs, v, ex, ea, ed, l, q⟩ := hh
  subst ex
  obtain rfl : u = Value.ref a := rx
  obtain ⟨oe, od, J, mA, hl, hr⟩ := heldE_inst I1 ea ed
  obtain ⟨u, hu, ru⟩ := RelO.some_of (v := v) (o := mA n) (by rw [← l]; exact hr n)
  exact HandSPX.exc_get I1.kIn J T.ga T.gg T.exC (PySem.W.findObj_own T.hdC hno rfl (by rw [hl, hu])) (handed_of ru) ⟨v, H1, I1.tok _, ru, q⟩
end K57
end part_K57U
section part_K57V
set_option Elab.async false
set_option linter.all false
set_option maxRecDepth 100000
set_option maxHeartbeats 4000000
/-! rule: for .. in the body of a generator -/
namespace K57
open PySem L2 PySem.Spec PyProof.Rows
section
variable {M : Model} {A : Around} {R : GenEnd} {Y : Protocol} {n : Nat} {s₀ : Shared} {c : Code} {fs : List Frame} {s : Shared} {env : Env} {K : Flow → Sem PySem.Fin} {H : Value → Sem PySem.Fin} {gd : Bool → Bool} {lv : List Value → List Value}
theorem seg_For {tg iter : Expr} {body orelse : List Stmt} {pos : Pos} (hs : ∀ x, foldedSetIterable iter env x = pure x)
    (h : wpAny M (A.over c fs) (eval iter env) (fun x s1 => wpAny M (A.over c fs) (pyIter x) (fun it s2 => ∀ p, Seg M A R Y n s₀ (.forLoop tg it body orelse env) (M.den (.forLoop tg it body orelse env))
      (.ret (fun r => ((match r with | .ok f => (.pure f : Sem Flow) | .error e => .raise e).onRaise (cameBack env)).wrap K H gd lv) none (gd false) (lv []) c p [] :: fs) s2) (fun x s' => Seg M A R Y n s₀ c (H x) fs s') s1) (fun x s' => Seg M A R Y n s₀ c (H x) fs s') s) :
    Seg M A R Y n s₀ c ((exec (.For tg iter body orelse pos) env).wrap K H gd lv) fs s := by
  rw [exec_For]
  refine seg_bind_wrap (wpAny_standAt ?_)
  refine seg_bind_wrap (wpAny_mono h (fun x s1 h1 => ?_) fun _ _ z => z)
  refine seg_bind_wrap (wpAny_of_eq (hs x) ?_)
  refine seg_bind_wrap (wpAny_standAt ?_)
  refine seg_bind_wrap (wpAny_holding (wpAny_mono h1 (fun it s2 h2 => ?_) fun _ _ z => z))
  exact seg_call h2
end
/-- a loop's exception is noted on its way -/
abbrev noteX (env : Env) (x : Value) : Sem PySem.Fin := (do noteFrame x env; theTreesLotGoes x : Sem Unit).wrap (fun _ => .raise x) .raise id id
section
variable {prog : Program} {w : World} {A : Around} {R : GenEnd} {Y : Protocol} {n : Nat} {s₀ : Shared} {fs : List Frame} {s : Shared} {env : Env}
theorem seg_forLoop {tg : Expr} {it : Value} {body orelse : List Stmt}
    (h : wpAny (model prog w) (A.over (.forLoop tg it body orelse env) fs) (pyNext it) (fun r s1 => match r with
        | none => Seg (model prog w) A R Y n s₀ (.forLoop tg it body orelse env) (.pure (.again (.block orelse env))) fs s1
        | some v => wpAny (model prog w) (A.over (.forLoop tg it body orelse env) fs) (letOwnedTupleGo tg it v) (fun _ s2 => wpAny (model prog w) (A.over (.forLoop tg it body orelse env) fs) (assign tg env v) (fun _ s3 =>
            Seg (model prog w) A R Y n s₀ (.forLoop tg it body orelse env) ((execs body env).wrap (fun f => match f with
              | .next | .cont => .pure (.again (.forLoop tg it body orelse env))
              | .brk => .pure (.done .next)
              | .ret v => .pure (.done (.ret v))) (noteX env) id id) fs s3) (fun x s' => Seg (model prog w) A R Y n s₀ (.forLoop tg it body orelse env) (noteX env x) fs s') s2) (fun x s' => Seg (model prog w) A R Y n s₀ (.forLoop tg it body orelse env) (noteX env x) fs s') s1)
      (fun x s' => Seg (model prog w) A R Y n s₀ (.forLoop tg it body orelse env) (noteX env x) fs s') s) :
    Seg (model prog w) A R Y n s₀ (.forLoop tg it body orelse env) ((model prog w).den (.forLoop tg it body orelse env)) fs s := by
  show Seg _ A R Y n s₀ _ ((forTurn tg it body orelse env).onRaise (fun x => do noteFrame x env; theTreesLotGoes x)) fs s
  rw [Sem.onRaise_eq_wrap, Sem.wrap_congr (forTurn tg it body orelse env) (K' := .pure) (H' := noteX env) _ _ (fun _ => rfl) (fun e => Sem.bind_eq_wrap _ _)]
  unfold forTurn
  refine seg_bind_wrap (wpAny_standAt ?_)
  refine seg_bind_wrap (wpAny_onRaise (wpAny_mono h (fun r s1 h1 => ?_) fun _ _ z => wpAny_standAt z))
  cases r with
  | none => exact h1
  | some v =>
    refine seg_bind_wrap (wpAny_mono h1 (fun _ s2 h2 => ?_) fun _ _ z => z)
    refine seg_bind_wrap (wpAny_mono h2 (fun _ s3 h3 => ?_) fun _ _ z => z)
    rw [Sem.bind_eq_wrap', Sem.wrap_wrap]
    rw [Sem.wrap_congr (execs body env) (H := fun e => Sem.wrap Sem.pure (noteX env) id id (Sem.raise e)) (K' := fun f => match f with
              | .next | .cont => .pure (.again (.forLoop tg it body orelse env))
              | .brk => .pure (.done .next)
              | .ret v => .pure (.done (.ret v))) (H' := noteX env) _ _ (fun f => by cases f <;> rfl) (fun e => rfl)]
    exact h3
end
/-- for .. in a generator -/
def tGFor (wi : TI) (g : TG) (tb : TGn) : TGn := fun D ys σ H => wi σ H fun J H1 => ∃ W : Nat → Nat → List V → L2.St → Hp → Prop, (∃ m, W 0 m ys σ H1) ∧ ∀ i m ys σ H, W i m ys σ H →
  (J.stop i H ∧ D.nx ys σ H) ∨ (J.go i H ∧ ∃ N : List V → L2.St → Hp → Prop, (∀ ys' σ' H', N ys' σ' H' → ∃ m', m' < m ∧ W (i + 1) m' ys' σ' H') ∧ ∀ x H', J.yld i H x H' → g x σ H' fun σ2 H2 => tb { D with nx := N, ct := N, bk := D.nx } ys σ2 H2)
theorem gs_for {X : Cx} {tg iter : Expr} {body : List Stmt} {wi : TI} {g : TG} {tb : TGn} {pos : Pos} (hp : PassesOwn (model X.prog X.w) X.A X.env X.xe) (hcalm : X.calm = true) (hi : PI X tg iter wi) (hg : PG X tg g) (hb : GSs X body tb)
    (hs : ∀ x, foldedSetIterable iter X.env x = pure x := by intro _; rfl) : GS X (.For tg iter body [] pos) (tGFor wi g tb) := by
  refine ⟨fun A S ip R n ys s₀ c fs K J gd lv s σ H D gc hn k hI ht => ?_⟩
  obtain ⟨acc, cc, r, I⟩ := hI
  refine seg_For hs ?_
  rw [gc.over]
  refine wpAny_mono (hi.run _ s σ H _ I ht) (fun v s1 h1 => wpAny_mono h1 (fun itv s2 h2 p => ?_) fun x s' hx => k.exc n s₀ x s' hx) fun x s' hx => k.exc n s₀ x s' hx
  obtain ⟨it, fp, tn, J', H2, e, I2, T, st2, f2, W, ⟨m0, w0⟩, turn⟩ := h2
  subst e
  have gl := fun (kk : Result → Sem PySem.Fin) => gc_loop (k := kk) (c' := .forLoop tg (.ref it) body [] X.env) (l := lv []) (kp := []) (p := p) gc rfl rfl
  have stat : ∀ {H' : Hp} {a' : Array Value} {c' : Nat}, (∀ b ∈ fp, H' b = none) → ∀ b ∈ fp, FpOk X ((S, lstObj a' c') :: ip) H' b := fun {H' a' c'} hn b hb => by
    obtain ⟨_, q1, q2, q3, q4, q5⟩ := f2 b hb
    refine ⟨hn b hb, q1, q2, q3, q4, fun p hp => ?_⟩
    rcases List.mem_append.mp hp with hp | hp
    · exact q5 p (List.mem_append_left _ hp)
    · rcases List.mem_cons.mp hp with e | hp
      · rw [e]; exact q5 (S, lstObj acc cc) (List.mem_append_right _ List.mem_cons_self)
      · exact q5 p (List.mem_append_right _ (List.mem_cons_of_mem _ hp))
  have nS : ∀ b ∈ fp, b ≠ S := fun b hb z => (f2 b hb).2.2.2.2.2 (S, lstObj acc cc) (List.mem_append_right _ List.mem_cons_self) z.symm
  have ee : ∀ (n : Nat) (s₀ : Shared) (x : Value) (s' : Shared), X.xe x s' → Seg (model X.prog X.w) A R (GY X S) n s₀ (.forLoop tg (.ref it) body [] X.env) (noteX X.env x)
      (.ret (fun r => ((match r with | .ok f => (.pure f : Sem Flow) | .error e => .raise e).onRaise (cameBack X.env)).wrap K J gd lv) none (gd false) (lv []) c p [] :: fs) s' := fun n s₀ x s' hx => by
    refine seg_wrap ?_
    rw [(gl _).over]
    refine wpAny_bind (wpAny_mono (hp x s' hx) (fun _ s'' hcb => wpAny_theTreesLotGoes ?_) fun y s'' hcb => ?_)
    · exact seg_leaf (.error x) (seg_cameBack gc k hcb)
    · exact seg_leaf (.error y) (seg_cameBack gc k hcb)
  have drop : ∀ {ip' : List (Addr × Obj)} {ys : List V} {σ : L2.St} {H : Hp} {s : Shared}, GI X S (ip ++ ip') ys σ H s → GI X S ip ys σ H s := fun {ip' ys σ H s} ⟨a', c', r', I'⟩ => ⟨a', c', r', I'.unpinned (pl := ip')⟩
  have loop : ∀ (m i n : Nat) (ys : List V) (s₀ s : Shared) (σ : L2.St) (H : Hp), n + ys.length = sizeLine → W i m ys σ H → GI X S ip ys σ H s → tn i s.heap → (∀ b ∈ fp, H b = none) →
      Seg (model X.prog X.w) A R (GY X S) n s₀ (.forLoop tg (.ref it) body [] X.env) ((model X.prog X.w).den (.forLoop tg (.ref it) body [] X.env))
        (.ret (fun r => ((match r with | .ok f => (.pure f : Sem Flow) | .error e => .raise e).onRaise (cameBack X.env)).wrap K J gd lv) none (gd false) (lv []) c p [] :: fs) s := by
    intro m
    induction m using Nat.strongRecOn with
    | ind m ih =>
      intro i n ys s₀ s3 σ3 H3 hn w3 hI3 st3 fr3
      obtain ⟨acc3, cc3, r3, I3⟩ := hI3
      refine seg_forLoop ?_
      rw [(gl _).over]
      rcases turn i m ys σ3 H3 w3 with ⟨stop, qn⟩ | ⟨go, N, hN, step⟩
      · refine wpAny_mono (T.done X rfl rfl rfl hcalm i _ s3 σ3 H3 X.xe I3 (stat fr3) st3 stop) (fun r s4 ⟨hr, I4⟩ => ?_) fun x s' hx => ee n s₀ x s' hx
        subst hr
        refine seg_again rfl ?_
        exact seg_leaf (.ok .next) (k.ok n ys s₀ s4 .next hn ⟨σ3, H3, ⟨acc3, cc3, r3, I4⟩, qn⟩)
      · refine wpAny_mono (T.item X rfl rfl rfl hcalm i _ s3 σ3 H3 X.xe I3 (stat fr3) st3 go) (fun r s4 ⟨u, hr, h4⟩ => ?_) fun x s' hx => ee n s₀ x s' hx
        subst hr
        refine wpAny_mono h4 (fun _ s5 ⟨x, H5, I5, r5, y5, st5, fr5⟩ => ?_) fun x s' hx => ee n s₀ x s' hx
        have I5' : L2.Inv X ((S, lstObj acc3 cc3) :: (ip ++ pinsAt fp s5.heap)) σ3 H5 s5 := I5.pinned (stat fr5) (T.obj _ _ st5)
        refine wpAny_mono (hg.run _ s5 σ3 H5 x u _ I5' r5 (step x H5 y5)) (fun _ s6 ⟨σ6, H6, I6, q6⟩ => ?_) fun x s' hx => ee n s₀ x s' hx
        have gcb : GC X S (ip ++ pinsAt fp s5.heap) A (.forLoop tg (.ref it) body [] X.env) (.ret (fun r => ((match r with | .ok f => (.pure f : Sem Flow) | .error e => .raise e).onRaise (cameBack X.env)).wrap K J gd lv) none (gd false) (lv []) c p [] :: fs) id :=
          { gl _ with ip := fun q hq => (List.mem_append.mp hq).elim (fun z => gc.ip q z) fun z => nS q.1 (of_pinsAt z).1 }
        refine hb.run A S (ip ++ pinsAt fp s5.heap) R n ys s₀ _ _ _ _ id id s6 σ6 H6 { D with nx := N, ct := N, bk := D.nx } gcb hn ⟨fun n' ys' s₀' s7 f hn' hs7 => ?_, fun n' s₀' x s7 hx => ee n' s₀' x s7 hx⟩ ⟨acc3, cc3, r3, I6⟩ q6
        have again : ∀ {σ7 : L2.St} {H7 : Hp}, GI X S (ip ++ pinsAt fp s5.heap) ys' σ7 H7 s7 → N ys' σ7 H7 → Seg (model X.prog X.w) A R (GY X S) n' s₀' (.forLoop tg (.ref it) body [] X.env) (.pure (.again (.forLoop tg (.ref it) body [] X.env)))
            (.ret (fun r => ((match r with | .ok f => (.pure f : Sem Flow) | .error e => .raise e).onRaise (cameBack X.env)).wrap K J gd lv) none (gd false) (lv []) c p [] :: fs) s7 := fun {σ7 H7} G7 n7 => by
          obtain ⟨m', hm, w7⟩ := hN ys' σ7 H7 n7
          obtain ⟨a7, c7, r7, I7⟩ := id G7
          have pin7 : ∀ b ∈ fp, ∀ o, s5.heap.get? b = some o → s7.heap.get? b = some o ∧ H7 b = none := fun b hb o e => by
            have := I7.pin (b, o) (List.mem_append_right _ (List.mem_cons_of_mem _ (List.mem_append_right _ (mem_pinsAt hb e))))
            exact ⟨this.1, this.2.1⟩
          refine seg_again rfl (ih m' hm (i + 1) n' ys' s₀' s7 σ7 H7 hn' w7 (drop G7) (T.keep _ _ _ st5 fun b hb o e => (pin7 b hb o e).1) fun b hb => ?_)
          obtain ⟨o, e, d⟩ := T.obj _ _ st5 b hb
          exact (pin7 b hb o e).2
        cases f with
        | next =>
          obtain ⟨σ7, H7, G7, n7⟩ := hs7
          exact again G7 n7
        | cont =>
          obtain ⟨σ7, H7, G7, n7⟩ := hs7
          exact again G7 n7
        | brk =>
          obtain ⟨σ7, H7, G7, q7⟩ := hs7
          exact seg_leaf (.ok .next) (k.ok n' ys' s₀' s7 .next hn' ⟨σ7, H7, drop G7, q7⟩)
        | ret v =>
          obtain ⟨x7, σ7, H7, G7, r7, q7⟩ := hs7
          exact seg_leaf (.ok (.ret v)) (k.ok n' ys' s₀' s7 (.ret v) hn' ⟨x7, σ7, H7, drop G7, r7, q7⟩)
  exact loop m0 0 n ys s₀ s2 σ H2 hn w0 ⟨acc, cc, r, I2⟩ st2 fun b hb => (f2 b hb).1
end K57
end part_K57V
section part_K57W
set_option Elab.async false
set_option linter.all false
set_option maxRecDepth 100000
set_option maxHeartbeats 4000000
/-! rule: a generator def called by keywords alone -/
namespace K57
open PySem L2 PySem.Spec PyProof.Rows
section
variable {X : Cx} {k : Nat} {f : Addr} {fd : FuncData} {ps ks : List Str} {sp : SpG} {E : XK} {x : Str} {p pos : Pos} {kws : List Keyword} {tk : TA} {g : List Value → List Value → List Value} {gV : List V → List V → List V}
def tCallGK (sp : SpG) (gV : List V → List V → List V) (E : XK) (tk : TA) : TGen := fun σ H cont => tk σ H fun zs H2 => sp (gV [] zs) H2 cont E
theorem pgen_callK0 (F : GFn X.prog X.w X.K X.mg X.base k f fd ps sp) (hr : Room k X.A) (hg : Gl X x) (hm : X.mg x = some (.ref f)) (hk : PySem.W.keepIn X.K (.ref f) = true) (hb : KBinds X.K fd ps ks g gV) (hkw : PK X kws tk)
    (hall : (backToKw pos (keywordEach kws X.env)).all (·.1.isSome) = true := by rfl) (hks : (backToKw pos (keywordEach kws X.env)).filterMap (·.1) = ks := by rfl) (hdb : (x == ("__debug__" : Str)) = false := by decide)
    (hpl : ((backTo pos (starEach [] X.env)).any (·.1) || (backToKw pos (keywordEach kws X.env)).any (·.1.isNone)) = false := by rfl) : PGen X k (.Call (.Name x p) [] kws pos) (tCallGK sp gV E tk) E := by
  refine ⟨fun pins s σ H cont I h => ?_⟩
  refine wpAny_Call_Name_kw (ld_glob I hg hm ?_ hdb)
  refine PySem.W.callWith_KW0 (h₀ := X.base) I.ok.mod.kin hk hall ?_ hpl
  refine thn (hkw.run pos pins s σ H _ I h) fun ws s2 ⟨zs, H2, I2, rz, q2⟩ => ⟨I2.kIn, ?_⟩
  rw [hks]
  have r2 := hb.rel (vs := []) (us := []) .nil rz
  have hl : (g [] ws).length = ps.length := by rw [← r2.length]; exact F.len _ _ _ _ q2
  refine wpAny_call (codeAny_mono (F.run X.A X.stack s2 H2 ⟨[], ks.zip ws⟩ (g [] ws) (gV [] zs) cont E hr I2.env0 (hb.to s2 [] ws I2.kIn hl) r2 q2) fun r s' hq => ?_)
  cases r with
  | error e => exact False.elim hq
  | ok fl =>
    cases fl with
    | ret u => exact ⟨H2, s2, [], I2, .nil, hq⟩
    | next => exact False.elim hq
    | brk => exact False.elim hq
    | cont => exact False.elim hq
end
end K57
end part_K57W
section part_K57X
set_option Elab.async false
set_option linter.all false
set_option maxRecDepth 100000
set_option maxHeartbeats 4000000
/-! _law_heard -/
namespace K57
open PySem L2 PySem.Spec PyProof.Rows Org
theorem pe_fldK {X : Cx} {K' : PySem.W.Frag} (hK : X.K = K') {e : Expr} {ta : TE} {f : Str} {pos : Pos} (he : PE X e ta) (hb : attributeBase e f X.env (eval e X.env) = eval e X.env := by rfl) : PE X (.Attribute e f pos) (tFld K' ta f) := hK ▸ pe_fld he hb
/-- an origin's object -/
def OriAt (H : Hp) (CO : Addr) (o : Addr) (p : Org.T × Org.Row) : Prop := ∃ (dx b : Addr) (fs : List (Str × V)), H o = some (.ins CO dx fs) ∧ fs.lookup (Str.ofString "row") = some (.ref b) ∧ fs.lookup (Str.ofString "text") = some (.str (SX.S p.1)) ∧ H b = some (.tup (rowV p.2))
/-- the lambda's value -/
def OutL (CO : Addr) (F : Found) (Q : VK) (v : V) (H1 : Hp) : Prop := ∃ (l : Addr) (os : List Addr), v = .ref l ∧ H1 l = some (.lst (os.map V.ref)) ∧ Paired (OriAt H1 CO) os F ∧ F.length ≤ 2000 ∧ ∀ (L : Addr) (ts : List Addr) (H2 : Hp), Same H1 H2 → H2 L = some (.lst (ts.map V.ref)) → Paired (RowOut H2) ts F → Q (.ref L) H2
/-- the lambda's exception -/
def OutE (CT : Addr) (Q : VK) : XK := fun cls d H1 => cls = .ref CT ∧ ∃ (dd : Addr) (x y : V), d = some dd ∧ H1 dd = some (.xd [("most", y), ("what", x)]) ∧ ∀ a Tq, H1 a = none → upd H1 a (HeldE a (.ref CT) (some dd)) Tq = none → Q (.ref Tq) (upd (upd H1 a (HeldE a (.ref CT) (some dd))) Tq (.tup [.str "many", x, y]))
/-- what is told of the lambda's end -/
def TTh (CO CT : Addr) (F : Found) : (XK → Hp → VK → Prop) → Hp → VK → Prop := fun tl H Q => ∀ (H0 : Hp) (Qv : VK), Same H H0 → (∀ v H1, OutL CO F Q v H1 → Qv v H1) → tl (OutE CT Q) H0 Qv
abbrev nHeard : List Str := ["_law_ask_so", "_law_caught", "_law_found", "error", "_law_one"]
theorem scHeard : FnScope nHeard ["_law_ask_so"] (C8.fnScope sHeard) := C8.fnScope_by (by decide +kernel)
theorem takes_len {X : Cx} {W : WX} (t : Takes X W) : Takes X (fun cls d σ H => σ.length = X.N.length → W cls d σ H) := fun u s' ⟨a, B, sI, pins, σ, H, cls, d, e, I, nb, up, sky, na, os, ag, w⟩ =>
  t u s' ⟨a, B, sI, pins, σ, H, cls, d, e, I, nb, up, sky, na, os, ag, w I.len⟩
theorem heard_gives {X : Cx} {g CO CT CR : Addr} {cdg : Value} {q : Str} {F : Found} (hmR : X.mg "RepairError" = some (.ref CR)) (hmT : X.mg "TooMany" = some (.ref CT)) (hmi : X.mg "isinstance" = none) (ex1 : PySem.W.exmOne X.K (.ref CT) (.ref CR) = some true)
    (ec : ExcC X.K CT) (k1 : PySem.W.kitOne X.K (.ref CT) (.ref CT) = some true) (xf : XfC X.K CT) (w1 : PySem.W.findIn X.K (.ref CT) "what" = some none) (w2 : PySem.W.findIn X.K (.ref CT) "most" = some none) (cl : Cls X.K CO) (n1 : NoAttr X.K CO "row") (n2 : NoAttr X.K CO "text") :
    LamX.GivesTo X nHeard "_law_heard" (C8.fnScope sHeard) g cdg (C8.fnBody sHeard) "_law_ask_so" q (TTh CO CT F) := by
  intro f c' s H Q tl act hc h
  have N4 : (cxOf C8.CX0 X.prog X.w X.K X.mg X.base nHeard "_law_heard" (C8.fnScope sHeard) g cdg X.A X.stack s H C8.E0).nox.N.length = 5 := rfl
  refine ⟨_, pss_cons (ps_asg (pe_tup (pa_cons pe_non (pa_cons pe_non pa_nil))) (pg_tup rfl (pgs_cons (pg_name (i := 1) scHeard.nd rfl (Or.inl rfl)) (pgs_cons (pg_name (i := 2) scHeard.nd rfl (Or.inl rfl)) pgs_nil))))
    (C8.pss_cut (ps_try_keep (X := (cxOf C8.CX0 X.prog X.w X.K X.mg X.base nHeard "_law_heard" (C8.fnScope sHeard) g cdg X.A X.stack s H C8.E0).nox) (c := .ref CR) (i := 3)
      (tb := fun W D σ H => ∃ Ech : XK, (∀ cls d σ' H', Ech cls d H' → σ'.length = 5 → W cls d σ' H') ∧
        tAsg (tLc (iList X.K (fun σZ HZ Q => σZ[0]? = some (some (.ref f)) ∧ HZ c' = some (LamX.CodeO c' q) ∧ tl Ech HZ Q)) (gName 4) tYes (tTup (tCons (tFld X.K (tVar 4) "row") (tCons (tFld X.K (tVar 4) "text") tNil))) [4]) (gName 2) D σ H)
      rfl rfl rfl scHeard.nd rfl rfl ⟨rfl, by decide, .inl hmR⟩ (fun W pn xe tk _ => ?_) (fun a oe cls d pn _ _ => pss_one (ps_set (i := 1) scHeard.nd rfl (Or.inl rfl) (pv 3))))
    (pss_cons (ps_if (pt_cmpR op_isN (pv 1) pe_non (nomark _)) (pss_one (ps_ret (pv 2))) pss_nil)
    (pss_one (ps_ret (pe_ifExp (pt_val (pe_callB (call_isHeld ec k1) (by rfl) hmi (by decide +kernel) (pa_cons (pv 1) (pa_cons (C8.pe_gc (v := .ref CT) (by rfl) ⟨_, hmT, rfl⟩) pa_nil))))
      (pe_tup (pa_cons pe_str (pa_cons (pe_held xf w1 (pv 1)) (pa_cons (pe_held xf w2 (pv 1)) pa_nil)))) (pe_tup (pa_cons pe_str pa_nil))))))), ?_⟩
  · refine ⟨fun pins s' σ H' D I h' => ?_⟩
    obtain ⟨Ech, hW, h1⟩ := h'
    have hp := act (fun cls d σ H => σ.length = 5 → W cls d σ H) pn xe Ech
    refine PSs.run ?_ pins s' σ H' D I h1
    exact pss_one (ps_setLc (i := 2) (own := [("_law_one", 4)]) (g := gName 4) (tt := tYes) rfl scHeard.nd rfl rfl (sw_true rfl rfl rfl (by decide +kernel)) (pi_list (hp _ _ (takes_len tk) hW))
      (blkOk_by (N := nHeard) (sc := C8.fnScope sHeard) (by decide +kernel)) (fun _ _ _ _ _ => pg_name (i := 4) scHeard.nd rfl (Or.inl rfl)) (fun _ _ _ _ _ => pts_nil)
      (fun _ _ _ _ _ => pe_tup (pa_cons (pe_fldK (K' := X.K) (by rfl) (pv 4)) (pa_cons (pe_fldK (K' := X.K) (by rfl) (pv 4)) pa_nil))))
  · refine ⟨le_line (m := 2) (Nat.le_refl _), fun p hp => ⟨p, _, rfl, SqT.of upd_same, rfl, _, _, rfl, _, _, rfl, rfl, ?_⟩⟩
    have s0 : Same H (upd H p (.tup [.non, .non])) := Same.new hp
    refine ⟨fun σ H' => (∃ v3 v4 L, σ = [some (.ref f), some .non, some (.ref L), v3, v4] ∧ Q (.ref L) H') ∨ ∃ (a dd : Addr) (x y : V), σ[1]? = some (some (.ref a)) ∧ H' a = some (HeldE a (.ref CT) (some dd)) ∧ H' dd = some (.xd [("most", y), ("what", x)]) ∧ ∀ Tq, H' Tq = none → Q (.ref Tq) (upd H' Tq (.tup [.str "many", x, y])), ?_, ?_⟩
    · refine ⟨OutE CT Q, fun cls d σ' H1 hE hlen => ?_, ?_⟩
      · obtain ⟨rfl, dd, x, y, rfl, hdd, k⟩ := hE
        refine ⟨ex1, fun a ha => ?_⟩
        have h5 : ∃ v0 v1 v2 v3 v4, σ' = [v0, v1, v2, v3, v4] := by
          match σ', hlen with
          | [v0, v1, v2, v3, v4], _ => exact ⟨v0, v1, v2, v3, v4, rfl⟩
        obtain ⟨v0, v1, v2, v3, v4, rfl⟩ := h5
        refine ⟨_, rfl, .inr ⟨a, dd, x, y, rfl, upd_same, ?_, fun Tq hTq => k a Tq ha hTq⟩⟩
        rw [upd_ne (ne_of_none hdd ha)]
        exact hdd
      · refine ⟨rfl, s0 _ _ hc, h _ _ s0 ?_⟩
        rintro v H1 ⟨l, os, rfl, hl, hos, hF, k⟩
        refine ⟨l, rfl, ⟨_, SqL.of hl⟩, ?_⟩
        intro L hL
        refine lc_n (n := F.length) (fun i H2 => ∃ ts : List Addr, Same H1 H2 ∧ H2 L = some (.lst (ts.map V.ref)) ∧ Paired (RowOut H2) ts (F.take i)) ⟨[], Same.new hL, by rw [upd_same]; rfl, .nil⟩ (fun i H2 hi ⟨_, s2, _⟩ => ?_) (fun H2 ⟨_, s2, _⟩ => ⟨_, SqL.of (s2 _ _ hl), by rw [List.length_map, paired_len hos]; exact Nat.le_refl _⟩) ?_ ?_
        · have hi3 : i < os.length := by rw [paired_len hos]; exact hi
          exact ⟨_, .ref os[i], SqL.of (s2 _ _ hl), by simp [hi3]⟩
        · rintro i H2 hi ⟨ts, s2, h2, pr⟩ x H3 ⟨rfl, hx⟩
          have hx := hx _ (SqL.of (s2 _ _ hl))
          obtain ⟨q, hq⟩ : ∃ q, q = F[i] := ⟨_, rfl⟩
          obtain ⟨o, ho, dx, b, fs, e1, e2, e3, e4⟩ := paired_get hos (show F[i]? = some q by rw [List.getElem?_eq_getElem hi, hq])
          have ex : x = .ref o := by
            have : (os.map V.ref)[i]? = some (.ref o) := by rw [List.getElem?_map, ho]; rfl
            exact Option.some.inj (hx.symm.trans this)
          subst ex
          refine ⟨rfl, _, rfl, o, CO, dx, fs, _, rfl, s2 _ _ e1, cl, n1, e2, _, rfl, o, CO, dx, fs, _, rfl, s2 _ _ e1, cl, n2, e3, le_line (m := 2) (Nat.le_refl _), fun Tq hTq => ?_⟩
          have nLT : Tq ≠ L := fun e => by rw [e, h2] at hTq; cases hTq
          have sT : Same H3 (upd H3 Tq (.tup [.ref b, .str (SX.S q.1)])) := Same.new hTq
          refine ⟨_, by rw [upd_ne nLT.symm]; exact h2, ?_, ts ++ [Tq], ?_, ?_, ?_⟩
          · rw [List.length_map, paired_len pr, List.length_take]; exact lt_line (m := 2000) (by omega)
          · intro b' o' e
            rw [upd_ne (ne_of_none e hL)]
            exact sT _ _ (s2 b' o' e)
          · rw [upd_same]; simp
          · rw [List.take_add_one, List.getElem?_eq_getElem hi, ← hq]
            have ltup : ∀ {z : Addr} {ys : List V} {ts' : List Addr} {Y : Hp}, Y z = some (.tup ys) → Y L = some (.lst (ts'.map V.ref)) → z ≠ L := fun g1 g2 e => by rw [e, g2] at g1; cases g1
            refine paired_append (Paired.mapP pr fun z q' ⟨b', g1, g2⟩ => ⟨b', ?_, ?_⟩) (.cons ⟨b, ?_, ?_⟩ .nil)
            · rw [upd_ne (ltup g1 h2)]; exact sT _ _ g1
            · rw [upd_ne (ltup g2 h2)]; exact sT _ _ g2
            · rw [upd_ne nLT, upd_same]
            · rw [upd_ne (ltup (s2 _ _ e4) h2)]; exact sT _ _ (s2 _ _ e4)
        · rintro H2 ⟨ts, s2, h2, pr⟩
          rw [List.take_length] at pr
          exact .inl ⟨_, _, L, rfl, k L ts H2 s2 h2 pr⟩
    · rintro σ H1 (⟨v3, v4, L, rfl, hQ⟩ | ⟨a, dd, x, y, h1, ha, hd, k⟩)
      · exact ⟨_, rfl, rfl, _, rfl, iteT ⟨_, rfl, hQ⟩⟩
      · refine ⟨_, h1, rfl, _, rfl, iteF ⟨_, h1, a, dd, _, rfl, ha, hd, _, rfl, iteT ⟨_, h1, a, dd, _, x, rfl, ha, hd, ?_, _, h1, a, dd, _, y, rfl, ha, hd, ?_, le_line (m := 3) (Nat.le_refl _), fun Tq hTq => k Tq hTq⟩⟩⟩
        · simp [List.lookup]
          rfl
        · simp [List.lookup]
end K57
end part_K57X
section part_K57Y
set_option Elab.async false
set_option linter.all false
set_option maxRecDepth 100000
set_option maxHeartbeats 4000000
/-! rule: {**a, **b} -/
namespace K57
open PySem
section
variable {prog : Program} {w : World} {K : Type} [DecidableEq K] {knd : KeyKind prog w K} {A : Around} {E : Value → Shared → Prop} {s : Shared}
theorem put_pairs {d : Addr} {kvs : List (K × Value)} {k : K} {key v : Value} {Q : Unit → Shared → Prop} (hkey : knd.is k key = true) (hm : s.heap.DictOf knd d kvs)
    (hQ : ∀ h', h'.DictOf knd d (stored kvs k v) → Heap.SameBut d s.heap h' → Q () { s with heap := h' }) (hsz : kvs.length ≤ sizeLine) : wpAny (model prog w) A (dictPut d (knd.hash k) key v) Q E s := by
  obtain ⟨o, es, ep, ho, hc, hd, hk, hp, hn⟩ := hm
  have hes : es.size ≤ sizeLine := by
    have e1 := hp.length
    have e2 : es.toList.length = es.size := by simp
    omega
  unfold dictPut
  refine wpAny_bind (wpAny_dictFind_of hkey ho hd hk ?_)
  have hidx : (es.findIdx? fun e => knd.is k e.key) = kvs.findIdx? fun kv => decide (kv.1 = k) := by
    rw [← hp.findIdx k]; obtain ⟨l⟩ := es; simp
  cases hi : es.findIdx? fun e => knd.is k e.key with
  | some i =>
    refine wpAny_updateDict ho hd (hQ _ ⟨_, _, ep, Heap.get?_update_self _ ho (Obj.isFreed_of_dict (Obj.data_mapDict hd _)), hc.mapDict _, Obj.data_mapDict hd _, hk.modify _ _, ?_, ?_⟩ (Heap.SameBut.update ..))
    · rw [stored, if_pos (any_of_findIdx_some (hidx ▸ hi))]
      have hl : (es.toList.findIdx? fun e => knd.is k e.key) = some i := by rw [← hi]; obtain ⟨l⟩ := es; simp
      have := hp.modify hn hl v
      obtain ⟨l⟩ := es
      simpa using this
    · rw [stored, if_pos (any_of_findIdx_some (hidx ▸ hi)), keys_map_store]; exact hn
  | none =>
    have hnot : k ∉ kvs.map (·.1) := not_mem_of_findIdx_none (hidx ▸ hi)
    have hany : ¬ (kvs.any fun kv => decide (kv.1 = k)) = true := by
      rw [List.any_eq_true]
      rintro ⟨kv, hkv, he⟩
      exact hnot (List.mem_map.mpr ⟨kv, hkv, of_decide_eq_true he⟩)
    refine wpAny_updateDictKeys (hz := hes) ho hd (hQ _ ⟨_, _, ep + 1, Heap.get?_update_self _ ho (Obj.isFreed_of_dict (Obj.data_mapDictKeys hd _)), hc.mapDictKeys _, Obj.data_mapDictKeys hd _, hk.push hkey _, ?_, ?_⟩ (Heap.SameBut.update ..))
    · rw [stored, if_neg hany]
      have := hp.append hkey (knd.hash k) v
      obtain ⟨l⟩ := es
      simpa using this
    · rw [stored, if_neg hany, List.map_append, List.nodup_append]
      refine ⟨hn, by simp, ?_⟩
      intro a ha b hb
      simp only [List.map_cons, List.map_nil, List.mem_singleton] at hb
      subst hb
      exact fun e => hnot (e ▸ ha)
theorem merge_into {d o : Addr} {kvs more : List (K × Value)} {Q : Unit → Shared → Prop} (hdo : d ≠ o) (hoS : (o == sysModules) = false) (hd : s.heap.DictOf knd d kvs) (ho : s.heap.DictOf knd o more) (href : ∀ k key, knd.is k key = true → ∀ a, key ≠ .ref a)
    (hQ : ∀ h', h'.DictOf knd d (merged kvs more) → h'.DictOf knd o more → Heap.SameBut d s.heap h' → Q () { s with heap := h' }) (hsz : kvs.length + more.length ≤ sizeLine) : wpAny (model prog w) A (mergeMapping d (.ref o) false) Q E s := by
  obtain ⟨od, esd, epd, hod, hcd, hdd, hkd, hpd, hnd⟩ := id hd
  obtain ⟨oo, eso, epo, hoo, hco, hdo', hko, hpo, hno⟩ := id ho
  unfold mergeMapping
  refine wpAny_bind (wpAny_isInstance ho.typeIs isSubtype_dict_dict ?_)
  simp only [if_true]
  refine wpAny_bind (wpAny_specialOf ho.typeIs F.slot_dict_iter.lookup (wpAny_bind (wpAny_pure ?_)))
  simp only [beq_self_eq_true, Bool.false_eq_true, if_false]
  rw [if_neg (by rw [hoS]; exact Bool.false_ne_true)]
  refine wpAny_bind (wpAny_dictEntries hod hdd ?_)
  have hlen : more.length = eso.size := by rw [← hpo.length]; simp
  have loop : wpAny (model prog w) A (do
      let l ← dictEntries o
      let epoch ← dictEpoch o
      forIn (List.range l.size) PUnit.unit fun i (_ : PUnit) => (do
          let l' ← dictEntries o
          match l'[i]? with
            | some e => do
              holding [e.key, e.val] (dictPut d e.hash e.key e.val)
              let ep' ← dictEpoch o
              if (ep' != epoch) = true then do
                  (unsupported "dict.changed-during-merge" : Sem PUnit)
                  pure (ForInStep.yield PUnit.unit)
                else pure (ForInStep.yield PUnit.unit)
            | _ => do
              (unsupported "dict.changed-during-merge" : Sem PUnit)
              pure (ForInStep.yield PUnit.unit) : Sem (ForInStep PUnit))
      pure ()) Q E s := by
    refine wpAny_bind (wpAny_dictEntries hoo hdo' ?_)
    refine wpAny_bind (wpAny_dictEpoch hoo hdo' ?_)
    refine wpAny_bind ?_
    rw [List.range_eq_range']
    refine wpAny_forIn_list _
      (fun rest _ s' => ∃ h' i, s' = { s with heap := h' } ∧ rest = List.range' i (eso.size - i) ∧ i ≤ eso.size ∧ h'.DictOf knd d (merged kvs (more.take i)) ∧ h'.get? o = some oo ∧ Heap.SameBut d s.heap h')
      _ ?_ ?_ _ _ ⟨s.heap, 0, rfl, by simp, Nat.zero_le _, by simpa [merged] using hd, hoo, Heap.SameBut.refl _ _⟩
    · rintro x rest b s' ⟨h', i, rfl, hr, hi, hd', hoo', hs'⟩
      have hlt : i < eso.size := by
        rcases Nat.lt_or_ge i eso.size with h | h
        · exact h
        · rw [Nat.sub_eq_zero_of_le h] at hr; simp at hr
      obtain ⟨rfl, hrest⟩ : x = i ∧ rest = List.range' (i + 1) (eso.size - (i + 1)) := by
        have e : eso.size - i = (eso.size - (i + 1)) + 1 := by omega
        rw [e, List.range'_succ] at hr
        injection hr with h1 h2
        exact ⟨h1, h2⟩
      refine wpAny_bind (wpAny_dictEntries hoo' hdo' ?_)
      rw [Array.getElem?_eq_getElem hlt]
      obtain ⟨⟨k, v⟩, hkv⟩ : ∃ kv, more[x]? = some kv := ⟨more[x]'(by rw [hlen]; exact hlt), List.getElem?_eq_getElem _⟩
      obtain ⟨hkey, hval⟩ := hpo.get? (e := eso[x]) (by simp [hlt]) hkv
      obtain ⟨k', hkey', hhash⟩ := hko eso[x] (Array.getElem_mem hlt)
      obtain rfl : k' = k := knd.inj _ _ _ hkey' hkey
      show wpAny _ _ (holding [eso[x].key, eso[x].val] (dictPut d eso[x].hash eso[x].key eso[x].val) >>= _) _ _ _
      rw [hhash, hval]
      have hmx : (merged kvs (more.take x)).length ≤ sizeLine := by
        have e1 := merged_length_le kvs (more.take x)
        have e2 : (more.take x).length ≤ more.length := by rw [List.length_take]; omega
        omega
      refine wpAny_bind (wpAny_holding (put_pairs hkey hd' (fun h'' hd'' hs'' => ?_) hmx))
      have hoo'' : h''.get? o = some oo := (hs''.2 o (Ne.symm hdo)).trans hoo'
      refine wpAny_bind (wpAny_dictEpoch hoo'' hdo' ?_)
      rw [if_neg (by simp)]
      exact wpAny_pure ⟨h'', x + 1, rfl, hrest, hlt, by rw [merged_take_succ kvs more x (k', v) hkv]; exact hd'', hoo'', hs'.trans hs''⟩
    · rintro b s' ⟨h', i, rfl, hr, hi, hd', hoo', hs'⟩
      have hin : i = eso.size := by
        rcases Nat.lt_or_ge i eso.size with h | h
        · have e : eso.size - i = (eso.size - (i + 1)) + 1 := by omega
          rw [e, List.range'_succ] at hr
          cases hr
        · omega
      rw [hin, List.take_of_length_le (by omega)] at hd'
      exact wpAny_pure (hQ h' hd' ⟨oo, eso, epo, hoo', hco, hdo', hko, hpo, hno⟩ hs')
  by_cases hemp : esd.isEmpty = true
  · rw [if_pos hemp]
    refine wpAny_bind (wpAny_dictEntries hoo hdo' ?_)
    refine wpAny_bind ?_
    rw [← Array.forIn_toList]
    refine wpAny_forIn_list _ (fun rest _ s' => s' = s ∧ ∀ e ∈ rest, ∃ k, knd.is k e.key = true) _ ?_ ?_ _ _ ⟨rfl, fun e he => ?_⟩
    · rintro x rest b s' ⟨rfl, hr⟩
      obtain ⟨k, hk⟩ := hr x List.mem_cons_self
      have hne := href k _ hk
      cases hx : x.key with
      | ref a => exact absurd hx (hne a)
      | _ => exact wpAny_pure ⟨rfl, fun e he => hr e (List.mem_cons_of_mem _ he)⟩
    · rintro b s' ⟨rfl, _⟩
      exact loop
    · obtain ⟨k, hk, _⟩ := hko e (by simpa using he)
      exact ⟨k, hk⟩
  · rw [if_neg hemp]
    exact loop
end

open L2 PyProof.Rows
/-- {**a, **b} -/
def tMerge2 (ta tb : TE) : TE := fun σ H Q => ∀ p, H p = none → ta σ (upd H p (.dK [])) fun x H1 => ∃ a1 k1, x = .ref a1 ∧ H1 a1 = some (.dK k1) ∧ a1 ≠ p ∧ H1 p = some (.dK []) ∧ k1.length ≤ 1000 ∧ tb σ (upd H1 p (.dK (mergeK [] k1))) fun y H2 => ∃ b1 k2, y = .ref b1 ∧ H2 b1 = some (.dK k2) ∧ b1 ≠ p ∧ H2 p = some (.dK (mergeK [] k1)) ∧ k2.length ≤ 1000 ∧
  Q (.ref p) (upd H2 p (.dK (mergeK (mergeK [] k1) k2)))
theorem mix_noref {P : Program} {w : World} (k : Key) (key : Value) (h : (mixKind P w).is k key = true) (a : Addr) : key ≠ .ref a := by
  rcases keyIs_shape h with ⟨i, t, rfl, rfl⟩ | ⟨x, t, rfl, rfl⟩ <;> exact nofun
theorem merge_step {X : Cx} {pins : List (Addr × Obj)} {σ : L2.St} {H : Hp} {s : Shared} {d o : Addr} {k1 k2 : List (Key × V)} {E : Value → Shared → Prop} {Q : Unit → Shared → Prop} (I : L2.Inv X pins σ H s) (hd : H d = some (.dK k1)) (ho : H o = some (.dK k2)) (hdo : o ≠ d) (h1 : k1.length ≤ 2000) (h2 : k2.length ≤ 1000)
    (h : ∀ s', L2.Inv X pins σ (upd H d (.dK (mergeK k1 k2))) s' → Q () s') : wpAny (model X.prog X.w) X.A (mergeMapping d (.ref o) false) Q E s := by
  obtain ⟨z1, y1, v1, r1, d1⟩ := dk_of I.hok hd
  obtain ⟨z2, y2, v2, r2, d2⟩ := dk_of I.hok ho
  have hsz : v1.length + v2.length ≤ sizeLine := by
    rw [← r1.length, ← r2.length, sizeLine_eq]; omega
  refine merge_into (Ne.symm hdo) y2 d1 d2 mix_noref (fun h' dd' _ hs => ?_) hsz
  have hz : (mergeK k1 k2).length ≤ sizeLine := by
    have := length_mergeK k2 k1
    rw [sizeLine_eq]; omega
  exact h _ (d_write (t' := s.toks) I (by rw [hd]; exact True.intro) hs (let ⟨q, _, _, hq, _⟩ := dd'; ⟨q, hq⟩) (dk_new hz y1 (r2.merge r1) dd'))
theorem pe_merge2 {X : Cx} {a b : Expr} {ta tb : TE} {pos : Pos} (ha : PE X a ta) (hb : PE X b tb) : PE X (.Dict [none, none] [a, b] pos) (tMerge2 ta tb) := by
  refine ⟨fun pins s σ H Q I q => ?_⟩
  have hn := I.hok.fresh (Nat.le_refl s.heap.objs.size)
  have I1 := I.laid (a := s.heap.objs.size) (o := .dK []) (h' := s.heap.push { cls := .type "dict", data := .dict #[] }) (t' := s.toks) (fun _ _ q => Heap.get?_push_of_some _ q) (Nat.le_refl _) (dk_empty s.heap I.big)
  rw [arm_eval_Dict]
  refine wpAny_bind (wpAny_standAt ?_)
  show wpAny _ _ (dictDisplay [(none, do let x ← eval a X.env; standAt pos; pure x), (none, do let x ← eval b X.env; standAt pos; pure x)]) _ _ _
  unfold dictDisplay
  simp only [List.forIn_cons, List.forIn_nil, List.isEmpty_nil, if_true, pure_bind, bind_assoc]
  refine wpAny_bind (wpAny_alloc ?_)
  refine wpAny_bind (wpAny_holding (wpAny_bind (thn (ha.run pins _ σ _ _ I1 (q _ hn)) fun u s1 ⟨x, H1, I1', r1, a1, k1, ex, e1, n1, ep1, l1, q1⟩ => wpAny_bind (wpAny_standAt (wpAny_pure ?_)))))
  subst ex
  obtain rfl : u = Value.ref a1 := r1
  refine wpAny_bind (wpAny_onRaise (wpAny_tryCatch (wpAny_onRaise (wpAny_holding (merge_step I1' ep1 e1 n1 (by simp) l1 fun s2 I2 => ?_)))))
  refine wpAny_bind (wpAny_holding (wpAny_bind (thn (hb.run pins _ σ _ _ I2 q1) fun u s3 ⟨y, H3, I3, r3, b1, k2, ey, e2, n2, ep2, l2, q2⟩ => wpAny_bind (wpAny_standAt (wpAny_pure ?_)))))
  subst ey
  obtain rfl : u = Value.ref b1 := r3
  have hm : (mergeK [] k1).length ≤ 2000 := by
    have := length_mergeK k1 []
    rw [List.length_nil] at this
    omega
  refine wpAny_bind (wpAny_onRaise (wpAny_tryCatch (wpAny_onRaise (wpAny_holding (merge_step I3 ep2 e2 n2 hm l2 fun s4 I4 => ?_)))))
  exact wpAny_pure ⟨.ref s.heap.objs.size, _, I4, rfl, q2⟩
end K57
end part_K57Y
section part_K57Z
set_option Elab.async false
set_option linter.all false
set_option maxRecDepth 100000
set_option maxHeartbeats 4000000
/-! texts_ahead -/
namespace K57
open PySem L2 Org
theorem starts_at (t img : List Nat) (a : Nat) (h : a ≤ t.length) : Txt.startswith3 (SX.S t) (SX.S img) (a : Int) = img.isPrefixOf (t.drop a) := by
  have ef : PySem.fromIndex (SX.S t).length (a : Int) = a := by
    unfold PySem.fromIndex
    rw [if_neg (by omega)]
    omega
  unfold Txt.startswith3
  rw [ef, StrLaws.subAt_eq, SX.S_len, SX.S_len]
  have e1 : (SX.S t).cps.toList = t := by simp [SX.S]
  have e2 : (SX.S img).cps.toList = img := by simp [SX.S]
  rw [e1, e2, Bool.eq_iff_iff, List.isPrefixOf_iff_prefix, List.prefix_iff_eq_take, Bool.and_eq_true, decide_eq_true_iff, beq_iff_eq]
  constructor
  · rintro ⟨_, q⟩; exact q.symm
  · intro q
    refine ⟨?_, q.symm⟩
    have := congrArg List.length q
    rw [List.length_take, List.length_drop] at this
    omega
section
variable {P : Program} {w : World} {K : PySem.W.Frag} {mg : Str → Option Value} {base : Heap}
theorem tyL {K : PySem.W.Frag} {H : Hp} {p : Addr} {xs : List V} (h : H p = some (.lst xs)) : tyV K "list" (.ref p) H := .inl ⟨rfl, xs, SqL.of h⟩
/-- a misreading's object -/
def MisAt (H : Hp) (CM : Addr) (r : Addr) (m : Mis) : Prop := ∃ (dx d : Addr) (fs : List (Str × V)), H r = some (.ins CM dx fs) ∧ fs.lookup (Str.ofString "images") = some (.ref d) ∧ H d = some (.dK (kvM m))
theorem MisAt.same {H H' : Hp} {CM r : Addr} {m : Mis} (h : MisAt H CM r m) (s : Same H H') : MisAt H' CM r m := by
  obtain ⟨dx, d, fs, h1, h2, h3⟩ := h
  exact ⟨dx, d, fs, s _ _ h1, h2, s _ _ h3⟩
def spAhead (CM : Addr) : Sp := fun vs H Q _ => ∃ (r : Addr) (m : Mis) (t : List Nat), vs = [.ref r, .str (SX.S t)] ∧ MisAt H CM r m ∧ Good m ∧ m.length ≤ 100 ∧ (∀ q ∈ m, q.2.length ≤ 100) ∧ t.length ≤ 100 ∧
  ∀ (H' : Hp) (r : Addr), Same H H' → H' r = some (.lst (txts (srcs m t))) → Q (.ref r) H'
abbrev nAhead : List Str := ["misreading", "text", "found", "at", "some", "letter", "image", "place", "rest"]
theorem scAhead : FnScope nAhead ["misreading", "text"] (C8.fnScope sAhead) := C8.fnScope_by (by decide +kernel)
theorem cal_ahead {f CM : Addr} {fd : FuncData} (F : C8.Def K mg "texts_ahead" sAhead f fd) (df : fd.defaults = .none) (T : Txt K mg) (cl : Cls K CM) (n1 : NoAttr K CM "images") (hmt : ∃ k, mg "MOST_TEXTS" = some (.int 500 k)) : C8.Cal P w K mg base 1 "texts_ahead" (spAhead CM) [] := by
  refine C8.cal0 F (F.fn.binds df (ps := ["misreading", "text"]) fun _ _ _ _ _ _ us hl => match us, hl with | [_, _], _ => rfl) .nil scAhead (fun vs H Q E h => ?_) (fun cdv A outer s H vs Q E hr h => ?_)
  · obtain ⟨r, m, t, rfl, _⟩ := h
    rfl
  · obtain ⟨r, m, t, rfl, ⟨dx, d, fs, hr1, hr2, hd⟩, gm, hml, hil, htl, kk⟩ := h
    have hu := hu_of hr
    obtain ⟨kt, hkt⟩ := hmt
    refine ⟨_, pss_cons (ps_setLc (i := 2) (own := [("place", 7)]) (g := gName 7) (tt := tYes) rfl scAhead.nd rfl rfl (sw_true rfl rfl rfl (by decide +kernel)) (pi_range1 (by rfl) T.range (pa_cons (pe_callB call_len_str (by rfl) T.len PySem.boot_len (pa_cons (pv 1) pa_nil)) pa_nil)) (blkOk_by (N := nAhead) (sc := C8.fnScope sAhead) (by decide +kernel)) (fun _ _ _ _ _ => pg_name (i := 7) scAhead.nd rfl (Or.inl rfl)) (fun _ _ _ _ _ => pts_nil) (fun _ _ _ _ _ => pe_lst pa_nil))
      (pss_cons (ps_expr (pe_bm PySem.F.plainAttrs_list PySem.F.slot_list_append PySem.F.type_list_append mt_append (pv 2) (pa_cons (pe_lst (pa_cons pe_str pa_nil)) pa_nil)))
      (pss_cons (ps_for PassesOwn.never rfl (pi_range3 (by rfl) T.range (pa_cons (pe_op op_sub (pe_callB call_len_str (by rfl) T.len PySem.boot_len (pa_cons (pv 1) pa_nil)) pe_int) (pa_cons (pe_un un_neg pe_int) (pa_cons (pe_un un_neg pe_int) pa_nil)))) (pg_name (i := 3) scAhead.nd rfl (Or.inl rfl))
        (pss_cons (ps_set (i := 4) scAhead.nd rfl (Or.inl rfl) (pe_lst pa_nil))
        (pss_cons (ps_lock (ps_for PassesOwn.never rfl (pi_items (pe_fldK (K' := K) (by rfl) (pv 0))) (pg_tup rfl (pgs_cons (pg_name (i := 5) scAhead.nd rfl (Or.inr rfl)) (pgs_cons (pg_name (i := 6) scAhead.nd rfl (Or.inl rfl)) pgs_nil)))
          (pss_one (ps_if (pt_val (pe_bm PySem.F.plainAttrs_str PySem.F.slot_str_startswith PySem.F.type_str_startswith mt_startswith3 (pv 1) (pa_cons (pv 6) (pa_cons (pv 3) pa_nil))))
            (pss_one (ps_expr (pe_bm PySem.F.plainAttrs_list PySem.F.slot_list_extend PySem.F.type_list_extend mt_extend (pv 4) (pa_cons 
              (pe_lc (own := [("rest", 8)]) (g := gName 8) (tt := tYes) rfl scAhead.nd (pi_list (pe_ix ix_list (pv 2) (pe_op op_add (pv 3) (pe_callB call_len_str (by rfl) T.len PySem.boot_len (pa_cons (pv 6) pa_nil))) (fun _ _ => rfl))) (blkOk_by (N := nAhead) (sc := C8.fnScope sAhead) (by decide +kernel))
                (fun _ _ _ _ _ => pg_name (i := 8) scAhead.nd rfl (Or.inl rfl)) (fun _ _ _ _ _ => pts_nil) (fun _ _ _ _ _ => pe_op op_add_str (pv 5) (pv 8))) pa_nil)))) pss_nil))))
        (pss_one (ps_asg (pe_slice sl_list (pv 4) po_none (po_some (pe_op op_add (C8.pe_gc (v := .int 500) (by rfl) ⟨_, hkt, kt, rfl⟩) pe_int))) (pg_sub (pv 2) (pv 3) set_list))))))
      (pss_one (ps_ret (pe_ix ix_list (pv 2) pe_int (fun _ _ => rfl)))))), ?_⟩
    refine ⟨_, rfl, _, rfl, le_line (m := 200) (by rw [SX.S_len]; omega), _, rfl, by rw [SX.S_len]; omega, by rw [SX.S_len]; omega, ?_⟩
    intro D hD
    refine lc_n (n := t.length) (fun i H2 => Same H H2 ∧ ∃ acc, H2 D = some (.lst acc) ∧ acc.length = i) ⟨Same.new hD, _, upd_same, rfl⟩ (fun i H2 hi _ => by show i < _; rw [SX.S_len]; exact hi) (fun H2 _ => by show _ ≤ t.length; rw [SX.S_len]; exact Nat.le_refl _) ?_ ?_
    · rintro i H2 hi ⟨s2, acc, h2, hl2⟩ x H3 ⟨rfl, rfl⟩
      refine ⟨rfl, Nat.zero_le _, fun p hp => ⟨acc, by rw [upd_ne (ne_of_none h2 hp)]; exact h2, by rw [hl2]; exact lt_line (m := 100) (by omega), fun b o e => ?_, _, upd_same, by simp [hl2]⟩⟩
      rw [upd_ne (ne_of_none e hD), upd_ne (ne_of_none (s2 b o e) hp)]
      exact s2 b o e
    · rintro H2 ⟨s2, acc, h2, hl2⟩
      refine ⟨_, rfl, tyL h2, le_line (m := 1) (Nat.le_refl _), fun A0 hA0 => ?_⟩
      have nDA : D ≠ A0 := ne_of_none h2 hA0
      refine ⟨D, acc, _, rfl, rfl, by rw [upd_ne nDA]; exact h2, by rw [hl2]; exact lt_line (m := 100) (by omega), ?_⟩
      obtain ⟨H3, eH3⟩ : ∃ H3, H3 = upd (upd H2 A0 (.lst [V.str (Str.ofString "")])) D (.lst (acc ++ [.ref A0])) := ⟨_, rfl⟩
      rw [← eH3]
      have nAD : A0 ≠ D := nDA.symm
      have e0 : txts ((tab m t).getD t.length []) = [V.str (Str.ofString "")] := by rw [tab_at (Nat.le_refl _), List.drop_length]; rfl
      have s3 : Same H H3 := fun b o e => by
        rw [eH3, upd_ne (ne_of_none e hD), upd_ne (ne_of_none (s2 b o e) hA0)]
        exact s2 b o e
      refine ⟨_, rfl, _, rfl, le_line (m := 200) (by rw [SX.S_len]; omega), _, _, rfl, rfl, _, rfl, _, rfl, _, _, _, t.length, rfl, ?_, ?_⟩
      · rw [SX.S_len]
        have := RgC.neg (i := (t.length : Int) - 1) (j := -1) (by omega) (by omega) (by omega) (by omega)
        rwa [show ((t.length : Int) - 1 - -1).toNat = t.length by omega] at this
      rw [SX.S_len]
      refine for_n (n := t.length) (fun i σ H3 => ∃ (v3 v4 v5 v6 v7 v8 : Option V) (vs : List V), σ = [some (.ref r), some (.str (SX.S t)), some (.ref D), v3, v4, v5, v6, v7, v8] ∧ Same H H3 ∧ H3 D = some (.lst vs) ∧ RowsAt H3 m t vs (t.length - i))
        ⟨none, none, none, none, none, none, _, rfl, s3, by rw [eH3]; exact upd_same, by simp [hl2], fun j j1 j2 => ?_⟩ (fun i σ H3 hi _ => hi) (fun σ H3 _ => Nat.le_refl _) ?_ ?_
      · have ej : j = t.length := by omega
        subst ej
        refine ⟨A0, ?_, ?_⟩
        · rw [List.getElem?_append_right (by omega), hl2]; simp
        · rw [eH3, upd_ne nAD, upd_same, e0]
      · rintro i σ H3 hi ⟨v3, v4, v5, v6, v7, v8, vs, rfl, sH, hF3, hlen, rows⟩ x H4 ⟨rfl, rfl⟩
        obtain ⟨at_, hat⟩ : ∃ at_, at_ = t.length - 1 - i := ⟨_, rfl⟩
        have eat : ((t.length : Int) - 1 + (i : Nat) * -1) = (at_ : Int) := by omega
        have lat : at_ < t.length := by omega
        rw [eat]
        refine ⟨Nat.zero_le _, fun A1 hA1 => ?_⟩
        have hd4 : H4 d = some (.dK (kvM m)) := sH _ _ hd
        have ndA : d ≠ A1 := ne_of_none hd4 hA1
        have nFA : D ≠ A1 := ne_of_none hF3 hA1
        obtain ⟨Hp0, hHp0⟩ : ∃ Hp0, Hp0 = upd H4 A1 (.lst []) := ⟨_, rfl⟩
        rw [← hHp0]
        have s40 : Same H4 Hp0 := by rw [hHp0]; exact Same.new hA1
        have hd0 : Hp0 d = some (.dK (kvM m)) := s40 _ _ hd4
        have nrd : r ≠ d := ne_of hr1 hd (fun z => nomatch z)
        have hr0 : Hp0 r = some (.ins CM dx fs) := s40 _ _ (sH _ _ hr1)
        refine ⟨d, _, hd0, trivial, fun od => ?_⟩
        refine ⟨_, rfl, r, CM, dx, fs, _, rfl, by rw [upd_ne nrd]; exact hr0, cl, n1, hr2, d, od, _, rfl, upd_same, ?_⟩
        have ndA1 : d ≠ A1 := ndA
        refine for_n (n := m.length) (fun k σ H5 => ∃ (v5 v6 v8 : Option V), σ = [some (.ref r), some (.str (SX.S t)), some (.ref D), some (.int at_), some (.ref A1), v5, v6, v7, v8] ∧ Keep A1 (upd Hp0 d (.frz od (.dK (kvM m)))) H5 ∧ H5 A1 = some (.lst (txts ((m.take k).flatMap (part (t.drop at_) (tab m (t.drop (at_ + 1))))))))
          ⟨v5, v6, v8, rfl, Keep.refl _ _, by rw [upd_ne ndA.symm, hHp0, upd_same]; rfl⟩
          (fun k σ H5 hk ⟨_, _, _, _, s5, _⟩ => ⟨s5 _ _ upd_same ndA1, by rw [kvM_len]; exact hk⟩) (fun σ H5 ⟨_, _, _, _, s5, _⟩ => ⟨s5 _ _ upd_same ndA1, by rw [kvM_len]; exact Nat.le_refl _⟩) ?_ ?_
        · rintro k σ H5 hk ⟨v5, v6, v8, rfl, s5, hS⟩ x H6 ⟨Tp, key, v, hkv, rfl, hTp, rfl⟩
          obtain ⟨q, hq, rfl, rfl⟩ := kvM_get hkv
          have hqm : q ∈ m := List.mem_of_getElem? hq
          have hil1 := hil q hqm
          have hdrop : (t.drop at_).length = t.length - at_ := List.length_drop
          have nTA : A1 ≠ Tp := ne_of_none hS hTp
          obtain ⟨H6, hH6⟩ : ∃ H6, H6 = upd H5 Tp (.tup [kV (Sum.inr (SX.S [q.1]) : Key), .str (SX.S q.2)]) := ⟨_, rfl⟩
          rw [← hH6]
          have s56 : Same H5 H6 := by rw [hH6]; exact Same.new hTp
          have k6 : Keep A1 (upd Hp0 d (.frz od (.dK (kvM m)))) H6 := s5.trans (Keep.of s56)
          have hS6 := s56 _ _ hS
          refine ⟨Tp, _, rfl, SqT.of (by rw [hH6]; exact upd_same), rfl, _, _, rfl, _, _, rfl, rfl, ?_⟩
          refine ⟨_, rfl, rfl, _, rfl, _, rfl, _, _, _, rfl, rfl, ?_⟩
          rw [starts_at _ _ _ (Nat.le_of_lt lat)]
          refine ⟨_, rfl, ?_⟩
          show if (q.2.isPrefixOf (t.drop at_)) = true then _ else _
          refine ite2 (fun hpre => ?_) (fun hpre => ?_)
          · have hq0 : 1 ≤ q.2.length := List.length_pos_iff.mpr (gm.ne q hqm)
            have hle : at_ + q.2.length ≤ t.length := by
              have := (List.isPrefixOf_iff_prefix.mp hpre).length_le
              omega
            obtain ⟨a, ha, hca⟩ := rows (at_ + q.2.length) (by omega) hle
            have nA1 : H4 A1 = none := hA1
            have had : a ≠ d := ne_of hca hd4 (fun z => nomatch z)
            have hca6 : H6 a = some (.lst (txts ((tab m t).getD (at_ + q.2.length) []))) := k6 _ _ (by rw [upd_ne had]; exact s40 _ _ hca) (ne_of_none hca nA1)
            have nFd : D ≠ d := ne_of hF3 hd4 (fun z => nomatch z)
            have hF6 : H6 D = some (.lst vs) := k6 _ _ (by rw [upd_ne nFd]; exact s40 _ _ hF3) (ne_of_none hF3 nA1)
            obtain ⟨R, hR⟩ : ∃ R, R = (tab m t).getD (at_ + q.2.length) [] := ⟨_, rfl⟩
            have hR501 : R.length ≤ 501 := by rw [hR]; exact tab_len501 m t _
            rw [← hR] at hca6
            have hpart : part (t.drop at_) (tab m (t.drop (at_ + 1))) q = R.map (q.1 :: ·) := by
              unfold part
              rw [if_pos hpre, tab_rest lat hq0, ← hR]
            have hRl : ∀ s ∈ R, s.length ≤ t.length := fun s hs => by
              rw [hR] at hs
              have := (tab_sound gm t _ s hs).2.1
              rw [List.length_drop] at this
              omega
            refine ⟨_, rfl, tyL hS6, _, rfl, _, rfl, _, rfl, _, rfl, by rw [SX.S_len]; exact le_line (m := 200) (by omega), _, _, rfl, rfl, D, vs, _, .ref a, rfl, rfl, SqL.of hF6, ?_, a, rfl, ⟨_, SqL.of hca6⟩, ?_⟩
            · rw [SX.S_len, ← Int.natCast_add]
              exact atI_nat ha
            intro D2 hD2
            refine lc_n (n := R.length) (fun i2 H7 => Same H6 H7 ∧ H7 D2 = some (.lst (txts ((R.take i2).map (q.1 :: ·))))) ⟨Same.new hD2, by rw [upd_same]; rfl⟩ (fun i2 H7 hi2 ⟨s7, _⟩ => ?_) (fun H7 ⟨s7, _⟩ => ⟨_, SqL.of (s7 _ _ hca6), by simp [txts]⟩) ?_ ?_
            · exact ⟨_, .str (SX.S (R[i2])), SqL.of (s7 _ _ hca6), by simp [txts, hi2]⟩
            · rintro i2 H7 hi2 ⟨s7, h7⟩ x H8 ⟨rfl, hx⟩
              have hx := hx _ (SqL.of (s7 _ _ hca6))
              have ex : x = .str (SX.S (R[i2])) := by
                have : (txts R)[i2]? = some (.str (SX.S (R[i2]))) := by simp [txts, hi2]
                exact Option.some.inj (hx.symm.trans this)
              subst ex
              refine ⟨rfl, _, rfl, _, rfl, _, _, rfl, rfl, ?_, _, h7, ?_, ?_, ?_⟩
              · have := hRl _ (List.getElem_mem hi2)
                rw [SX.S_len, SX.S_len]
                exact le_line (m := 200) (by show 1 + _ ≤ _; omega)
              · rw [txts_len, List.length_map, List.length_take]; exact lt_line (m := 600) (by omega)
              · intro b o e
                rw [upd_ne (ne_of_none e hD2)]
                exact s7 b o e
              · rw [upd_same]
                congr 2
                rw [List.take_add_one, List.getElem?_eq_getElem hi2, List.map_append, txts_app]
                congr 1
                show [V.str (SX.S [q.1] ++ SX.S R[i2])] = [V.str (SX.S (q.1 :: R[i2]))]
                rw [add_S]
            · rintro H7 ⟨s7, h7⟩
              rw [List.take_length, ← hpart] at h7
              have hS7 := s7 _ _ hS6
              refine ⟨A1, D2, _, _, rfl, rfl, hS7, h7, ?_, _, _, v8, rfl, k6.trans ((Keep.of s7).trans Keep.put), ?_⟩
              · have b1 := flatMap_le (l := m.take k) (f := part (t.drop at_) (tab m (t.drop (at_ + 1)))) (n := 501) fun q' hq' => part_len lat q' (gm.ne _ (List.mem_of_mem_take hq'))
                have b2 := part_len (m := m) lat q (gm.ne q hqm)
                have b3 : (m.take k).length * 501 ≤ 100 * 501 := Nat.mul_le_mul_right _ (by rw [List.length_take]; omega)
                rw [txts_len, txts_len]
                exact le_line (m := 60000) (by omega)
              · rw [upd_same, List.take_add_one, hq]
                simp [txts]
          · have hpart : part (t.drop at_) (tab m (t.drop (at_ + 1))) q = [] := by
              unfold part
              rw [if_neg hpre]
            refine ⟨_, _, v8, rfl, k6, ?_⟩
            rw [hS6, List.take_add_one, hq]
            simp [txts, hpart]
        · rintro σ H5 ⟨v5, v6, v8, rfl, s5, hS⟩
          have hd5 : H5 d = some (.frz od (.dK (kvM m))) := s5 _ _ upd_same ndA1
          have nSd : A1 ≠ d := ndA1.symm
          have sU : Same H4 (upd H5 d (.dK (kvM m))) := fun b o e => by
            by_cases hb : b = d
            · rw [hb] at e ⊢
              rw [upd_same, ← e, hd4]
            · rw [upd_ne hb]
              exact s5 _ _ (by rw [upd_ne hb]; exact s40 _ _ e) (ne_of_none e hA1)
          refine ⟨hd5, ?_⟩
          rw [List.take_length] at hS
          refine ⟨_, rfl, _, _, rfl, rfl, _, rfl, A1, _, rfl, SqL.of (by rw [upd_ne nSd]; exact hS), fun p hp => ⟨_, rfl, _, rfl, D, vs, _, at_, rfl, rfl, ?_, ixN_nat (by omega), ?_⟩⟩
          · rw [upd_ne (ne_of_none (sU _ _ hF3) hp)]
            exact sU _ _ hF3
          have s4u : Same H4 (upd (upd H5 d (.dK (kvM m))) p (.lst (cutV (txts (m.flatMap (part (t.drop at_) (tab m (t.drop (at_ + 1)))))) none (some 501)))) := sU.trans (Same.new hp)
          have npF : p ≠ D := fun e => by rw [e, sU _ _ hF3] at hp; cases hp
          refine ⟨_, _, _, _, _, _, _, rfl, fun b o e => ?_, upd_same, by rw [List.length_set]; exact hlen, fun j j1 j2 => ?_⟩
          · have : b ≠ D := ne_of_none e hD
            rw [upd_ne this]
            exact s4u _ _ (sH _ _ e)
          · rcases Nat.lt_or_ge at_ j with hj | hj
            · obtain ⟨a, ha, hca⟩ := rows j (by omega) j2
              have naF : a ≠ D := fun e => by
                rw [e, hF3] at hca
                cases hca
                have := List.mem_of_getElem? ha
                obtain ⟨s, _, hs⟩ := List.mem_map.mp this
                cases hs
              exact ⟨a, by rw [List.getElem?_set_ne (by omega)]; exact ha, by rw [upd_ne naF]; exact s4u _ _ hca⟩
            · have ej : j = at_ := by omega
              subst ej
              refine ⟨p, by rw [List.getElem?_set_self (by omega)], ?_⟩
              rw [upd_ne npF, upd_same, tab_cell lat]
              show some (HO.lst (cutV _ none (some ((501 : Nat) : Int)))) = _
              rw [cut_to]
              unfold cell txts
              rw [List.map_take]
      · rintro σ H3 ⟨v3, v4, v5, v6, v7, v8, vs, rfl, sH, hF3, hlen, rows⟩
        obtain ⟨a, ha, hca⟩ := rows 0 (by omega) (by omega)
        refine ⟨_, rfl, D, vs, 0, _, rfl, rfl, SqL.of hF3, atI_nat (j := 0) ha, ?_⟩
        refine kk H3 a sH ?_
        rw [hca, tab_at (Nat.zero_le _)]; rfl
end
end K57
end part_K57Z
section part_K57P
set_option Elab.async false
set_option linter.all false
set_option maxRecDepth 100000
set_option maxHeartbeats 4000000
/-! set(text), sorted(set(text)) -/
namespace K57
open PySem L2 PySem.Spec PyProof.Rows
def SetS (P : Program) (w : World) (h : Heap) (a : Addr) (n : Nat) : Prop :=
  ∃ o es ep t, h.get? a = some o ∧ o.ExactSet ∧ o.data = .set es ep t ∧ ElemsOf (PySem.strKind P w) es.toList ∧ es.size ≤ n ∧ t.fits es.size = true ∧ Ris t.place.toList ∧ (w.params.followText "set-order" = true ∨ t.led = true)
section
variable {P : Program} {w : World} {A : Around} {E : Value → Shared → Prop} {s : Shared} {a : Addr} {n : Nat}
theorem isStr {P : Program} {w : World} (k : Str) (u : Tok) : (PySem.strKind P w).is k (.str k u) = true := by
  show Value.isStrOf k (.str k u) = true
  simp [Value.isStrOf]
theorem SetS.at {h h' : Heap} (R : SetS P w h a n) (k : ∀ o, h.get? a = some o → h'.get? a = some o) : SetS P w h' a n := by
  obtain ⟨o, es, ep, t, ho, r⟩ := R
  exact ⟨o, es, ep, t, k o ho, r⟩
theorem setS_tail {g : Bool → Sem Unit} (hg : ∀ (b : Bool) (s₁ : Shared) (Q' : Unit → Shared → Prop), Q' () s₁ → wpAny (model P w) A (g b) Q' E s₁)
    {o : Obj} {es : Array (Int × Value)} {ep : Nat} {t : SetTable} (ho : s.heap.get? a = some o) (hex : o.ExactSet) (hd : o.data = .set es ep t)
    {es1 : Array (Int × Value)} {t2 : SetTable} (g1 : ElemsOf (PySem.strKind P w) es1.toList) (hn1 : es1.size ≤ n)
    (hb1 : n < scanBound) (hf2 : t2.fits es1.size = true) (hr : Ris t2.place.toList) (hl : w.params.followText "set-order" = true ∨ t2.led = true) {wasDummy : Bool} {R : Option Bool → Shared → Prop}
    (hR : ∀ h', Heap.SameBut a s.heap h' → SetS P w h' a n → R (some true) { s with heap := h' }) :
    wpAny (model P w) A (do
        storeSet a es1 t2
        if (!wasDummy && t2.tooFull) = true then do
            g (relayAll t2 es1 (SetTable.grown es1.size)).2.2
            storeSet a (relayAll t2 es1 (SetTable.grown es1.size)).1 (relayAll t2 es1 (SetTable.grown es1.size)).2.1
            pure (some true)
          else pure (some true)) R E s := by
  refine wpAny_bind (wpAny_storeSet_of ho hd ?_ (fits_of_scanBound (Nat.lt_of_le_of_lt hn1 hb1)))
  have ho1 := store_at (es' := es1) (t' := t2) ho hd
  have sb1 := Heap.SameBut.update s.heap a (Obj.putSet es1 t2)
  split
  · have pm := relayAll_perm t2 es1 (SetTable.grown es1.size)
    have hf3 := relayAll_fits t2 es1 (SetTable.grown es1.size)
    have hr3 := relayAll_ris t2 es1 (SetTable.grown es1.size)
    have hl3 := relayAll_led t2 es1 (SetTable.grown es1.size)
    generalize relayAll t2 es1 (SetTable.grown es1.size) = Z at pm hf3 hr3 hl3 ⊢
    obtain ⟨es2, t3, gave⟩ := Z
    dsimp only at pm hf3 hr3 hl3 ⊢
    have hsz : es2.size = es1.size := by rw [← Array.length_toList, pm.length_eq, Array.length_toList]
    refine wpAny_bind (hg _ _ _ ?_)
    refine wpAny_bind (wpAny_storeSet_of ho1 rfl ?_ (fits_of_scanBound (by rw [hsz]; exact Nat.lt_of_le_of_lt hn1 hb1)))
    have ho2 := store_at (es' := es2) (t' := t3) ho1 rfl
    refine wpAny_pure (hR _ (sb1.trans (Heap.SameBut.update _ a _)) ?_)
    exact ⟨_, es2, _, t3, ho2, hex, rfl, g1.perm pm, by rw [hsz]; exact hn1, hf3, hr3, hl.imp id fun z => by rw [hl3]; exact z⟩
  · exact wpAny_pure (hR _ sb1 ⟨_, es1, _, t2, ho1, hex, rfl, g1, hn1, hf2, hr, hl⟩)
theorem setS_add_hashed {k : Str} {tk : Tok} {Q : Bool → Shared → Prop} (R : SetS P w s.heap a n) (room : n + 1 < scanBound)
    (hQ : ∀ b h', Heap.SameBut a s.heap h' → SetS P w h' a (n + 1) → Q b { s with heap := h' }) :
    wpAny (model P w) A (setAddHashed a (.str k tk) ((PySem.strKind P w).hash k)) Q E s := by
  obtain ⟨o, es, ep, t, ho, hex, hd, hel, hn, hf, hr, hl⟩ := R
  have hkey : (PySem.strKind P w).is k (.str k tk) = true := isStr k tk
  have hsc : (Value.str k tk).scannable = true := rfl
  have hb : es.size < scanBound := by omega
  unfold setAddHashed setAddHashedIn
  refine wpAny_holding (wpAny_bind (wpAny_setState_of ho hd hf ?_))
  dsimp only
  rw [byScan_of hsc hb hel]
  simp only [↓reduceIte]
  unfold setAddByScan
  refine wpAny_bind ?_
  refine wpAny_bind (wpAny_rule ?_)
  refine wpAny_bind (wpAny_setScan_of hkey ho hd hf hel ?_)
  cases hfi : List.findIdx? (fun e => (PySem.strKind P w).is k e.2) es.toList with
  | some j =>
    dsimp only
    refine wpAny_pure (wpAny_pure ?_)
    exact hQ _ s.heap (Heap.SameBut.refl a s.heap) ⟨o, es, ep, t, ho, hex, hd, hel, by omega, hf, hr, hl⟩
  | none =>
    dsimp only
    have hgw : ∀ (b : Bool) {s₁ : Shared} {Q' : Unit → Shared → Prop}, Q' () s₁ → wpAny (model P w) A (match b with | true => rule "set.scan.the-table-gave-way" | false => pure ()) Q' E s₁ :=
      fun b s₁ Q' q => by cases b <;> first | exact wpAny_pure q | exact wpAny_rule q
    have pm := layNew_perm t es ((PySem.strKind P w).hash k) (.str k tk)
    have hf1 := layNew_fits t es ((PySem.strKind P w).hash k) (.str k tk)
    have hr1 := layNew_ris t es ((PySem.strKind P w).hash k) (.str k tk) hr
    have hl1 := layNew_led t es ((PySem.strKind P w).hash k) (.str k tk)
    generalize layNew t es ((PySem.strKind P w).hash k) (.str k tk) = Z at pm hf1 hr1 hl1 ⊢
    obtain ⟨es1, t1, wasDummy, gave⟩ := Z
    dsimp only at pm hf1 hr1 hl1 ⊢
    rw [Array.toList_push] at pm
    have g1 : ElemsOf (PySem.strKind P w) es1.toList := (hel.push hkey hsc).perm pm
    have hsz : es1.size ≤ n + 1 := by
      have : es1.size = es.size + 1 := by rw [← Array.length_toList, pm.length_eq, List.length_append, Array.length_toList]; rfl
      omega
    have hled : w.params.followText "set-order" = true ∨ t1.led = true := hl.imp id fun z => by rw [hl1]; exact z
    refine wpAny_bind (hgw _ ?_)
    split
    · refine wpAny_bind ?_
      rw [hashByValue_scannable 8 hsc]
      refine wpAny_pure ?_
      refine setS_tail (n := n + 1) ?_ ho hex hd g1 hsz room ?_ ?_ ?_ ?_
      · intro b s₁ Q' q; cases b <;> first | exact wpAny_pure q | exact wpAny_rule q
      · first | (split <;> first | exact hf1 | exact SetTable.fits_plain_off hf1) | exact hf1
      · first | (split <;> exact hr1) | exact hr1
      · first | (split <;> exact hled) | exact hled
      · intro h' sb r; dsimp only; exact wpAny_pure (hQ _ h' sb r)
    · refine wpAny_bind (wpAny_pure ?_)
      simp only [↓reduceIte]
      refine setS_tail (n := n + 1) ?_ ho hex hd g1 hsz room ?_ ?_ ?_ ?_
      · intro b s₁ Q' q; cases b <;> first | exact wpAny_pure q | exact wpAny_rule q
      · first | (split <;> first | exact hf1 | exact SetTable.fits_plain_off hf1) | exact hf1
      · first | (split <;> exact hr1) | exact hr1
      · first | (split <;> exact hled) | exact hled
      · intro h' sb r; dsimp only; exact wpAny_pure (hQ _ h' sb r)
end
section
variable {prog : Program} {w : World} {A : Around} {R : Result → Shared → Prop} {I : Addr} {fp wr : List Addr} {n : Nat} {x : Str} {St : Nat → Heap → Prop} {a : Addr}
theorem update_loop (W : Walks prog w A.in1 I fp wr n (SignAt x) St) (haw : a ∉ fp) (hb : n + 1 < scanBound) : ∀ (m i : Nat) (s : Shared), n - i = m → i ≤ n → St i s.heap →
    SetS prog w s.heap a i →
    (∀ h' tk, (∀ b o, b ∉ wr → b ≠ a → s.heap.get? b = some o → h'.get? b = some o) → SetS prog w h' a n → R (.ok (.ret .none)) { s with heap := h', toks := tk }) →
    codeAny (model prog w) A (.builtin "set.update.loop" ⟨[.ref a, .ref I], []⟩) R s := by
  have haw' : a ∉ wr := fun h => haw (W.sub _ h)
  intro m
  induction m with
  | zero =>
    intro i s hm hi hst hS hR
    have hin : i = n := by omega
    subst hin
    refine codeAny_builtin F.entry_set_update_loop ?_
    rw [Around.under_plainId F.plain_set_update_loop _]
    show wpAny _ A.in1 (pyNext (.ref I) >>= _) _ _ s
    refine wpAny_bind (W.done s _ _ hst fun h' tk hk' => ?_)
    show wpAny _ A.in1 (ret Value.none) _ _ _
    exact wpAny_pure (hR h' tk (fun b o hb _ e => hk' b o hb e) (hS.at fun o e => hk' a o haw' e))
  | succ m ih =>
    intro i s hm hi hst hS hR
    have hlt : i < n := by omega
    refine codeAny_builtin F.entry_set_update_loop ?_
    rw [Around.under_plainId F.plain_set_update_loop _]
    show wpAny _ A.in1 (pyNext (.ref I) >>= _) _ _ s
    refine wpAny_bind (W.item i s _ _ hlt hst fun v h' tk hP hst' hk' => ?_)
    obtain ⟨c, t, hc, rfl⟩ := hP
    have hS' : SetS prog w h' a i := hS.at fun o e => hk' a o haw' e
    show wpAny _ A.in1 (holding [Value.str ⟨#[c]⟩ t] (setAdd a (.str ⟨#[c]⟩ t)) >>= _) _ _ _
    refine wpAny_bind (wpAny_holding ?_)
    unfold setAdd
    refine wpAny_holding ?_
    refine wpAny_bind ((PySem.strKind prog w).pyHash (k := ⟨#[c]⟩) (isStr _ _) ?_)
    refine setS_add_hashed (s := { s with heap := h', toks := tk + 1 }) hS' (by omega) fun b h2 hsb hS2 => ?_
    refine wpAny_pure ⟨plainId_quiet F.plain_set_update_loop _, ih (i + 1) _ (by omega) hlt ?_ hS2 fun h3 tk3 hk3 hS3 => ?_⟩
    · refine W.frame _ h' _ hst' fun b hb o e => ?_
      have : h2.get? b = h'.get? b := hsb.2 b (fun h : b = a => haw (by rw [← h]; exact hb))
      show h2.get? b = _
      rw [this]; exact e
    · refine hR h3 tk3 (fun b o hb hba e => hk3 b o hb hba ?_) hS3
      have : h2.get? b = h'.get? b := hsb.2 b hba
      show h2.get? b = _
      rw [this]
      exact hk' b o hb e
end

section
variable {P : Program} {w : World} {A : Around} {E : Value → Shared → Prop} {s : Shared}
theorem setS_new_at {h : Heap} {a : Addr} (ho : h.get? a = some { cls := .type "set", dict := none, data := .set #[] 0 (.fresh 0 0 (!w.params.followText "set-order")) }) : SetS P w h a 0 :=
  ⟨_, #[], 0, _, ho, ⟨rfl, rfl, rfl⟩, rfl, (fun e he => by simp at he), (by decide), (by rfl), List.Pairwise.nil, by
    show _ ∨ (!w.params.followText "set-order") = true
    cases w.params.followText "set-order"
    · exact .inr rfl
    · exact .inl rfl⟩
theorem sub_str_set : isSubtype (Value.type "str") (Value.type "set") = pure false := by kernel_rfl
theorem sub_str_fz : isSubtype (Value.type "str") (Value.type "frozenset") = pure false := by kernel_rfl
abbrev setObj0 (w : World) : Obj := { cls := .type "set", dict := none, data := .set #[] 0 (.fresh 0 0 (!w.params.followText "set-order")) }
theorem call_set_text {x : Str} {t0 : Tok} {Q : Value → Shared → Prop} (hh : A.handled = none) (hb : x.cps.size + 1 < scanBound)
    (h : ∀ (h' : Heap) (tk : Nat), SetS P w h' s.heap.objs.size x.cps.size → (∀ b o, s.heap.get? b = some o → h'.get? b = some o) → Q (.ref s.heap.objs.size) { s with heap := h', toks := tk }) :
    wpAny (model P w) A (call (.type "set") [.str x t0]) Q E s := by
  obtain ⟨c, tl, hmro⟩ := F.called_set.mro
  have hmade := F.called_set.made
  have hsub := F.called_set.sub
  refine wpAny_call (codeAny_of_tree ?_)
  show wpAny _ _ (callAny (.type "set") _) _ _ _
  refine wpAny_pure ⟨Code.quiet_builtin _ (by decide +kernel), codeAny_builtin F.entry_type_call ?_⟩
  rw [Around.under_plain (weight_type_call_type "set" [.str x t0] []) rfl]
  have h1 := F.called_set.notType
  have h2 := F.called_set.canCreate
  have hct := F.typeCall_set_1 (.str x t0)
  repeat (any_goals (first | assumption | wp_step))
  refine codeAny_mono (code_set_led1 (.str x t0) (E := E) (Q₁ := fun obj s₁ => obj = .ref s.heap.objs.size ∧ s₁ = { s with heap := s.heap.push (setObj0 w) }) ⟨rfl, rfl⟩) fun r s₁ hr => ?_
  cases r with
  | error e => exact hr
  | ok fl =>
    cases fl with
    | ret obj =>
      obtain ⟨rfl, rfl⟩ := hr
      have hS : (s.heap.push (setObj0 w)).get? s.heap.objs.size = some (setObj0 w) := Heap.get?_push_size _ rfl
      have hT : Shared.TypeIs { s with heap := s.heap.push (setObj0 w) } (.ref s.heap.objs.size) "set" := ⟨_, hS, rfl⟩
      have hli := F.called_set.init.lookup
      have hbi := F.called_set.init.bind (.ref s.heap.objs.size)
      repeat (any_goals (first | assumption | wp_step))
      refine codeAny_mono (codeAny_call_builtin (R := wants (fun r s₂ => r = .none ∧ ∃ h' tk, s₂ = { s with heap := h', toks := tk } ∧ SetS P w h' s.heap.objs.size x.cps.size ∧
          (∀ b o, s.heap.get? b = some o → h'.get? b = some o)) E) F.called_set.init.plain F.entry_set_init (check_set_init_1 hT ?_)) fun r₂ s₂ hr₂ => ?_
      · have hsls : isSubtype (Value.type "str") (Value.type "set") = pure false := sub_str_set
        have hslf : isSubtype (Value.type "str") (Value.type "frozenset") = pure false := sub_str_fz
        have hne : (Value.type "str" == Value.type "dict") = false := by decide
        unfold Builtin.«set.__init__» noKeywords Builtin.Frozenset.updateFrom
        generalize hPI : pyIter = PI
        wp_walk
        subst hPI
        refine wpAny_pyIter_str fun o St hW hst => ?_
        refine wpAny_bind (wpAny_runValue ?_)
        have hh3 : A.in1.in1.in1.handled = none := by simp [hh]
        have hz1 : (s.heap.push (setObj0 w)).objs.size = s.heap.objs.size + 1 := Heap.size_push ..
        have hg : ((s.heap.push (setObj0 w)).push o).get? s.heap.objs.size = some (setObj0 w) := Heap.get?_push_of_some _ hS
        have hne2 : s.heap.objs.size ∉ [(s.heap.push (setObj0 w)).objs.size] := by rw [hz1, List.mem_singleton]; exact Nat.ne_of_lt (Nat.lt_succ_self _)
        refine update_loop (hW _ hh3) hne2 hb _ 0 { s with heap := (s.heap.push (setObj0 w)).push o } rfl (Nat.zero_le _) hst (setS_new_at hg) fun h' tk hk' hS' => ?_
        refine wpAny_pure ?_
        show wpAny _ _ (ret Value.none) _ _ _
        refine wpAny_pure ⟨rfl, h', tk, rfl, hS', fun b u e => ?_⟩
        have hb0 : b < s.heap.objs.size := Heap.lt_size e
        exact hk' b u (by rw [hz1, List.mem_singleton]; exact Nat.ne_of_lt (Nat.lt_succ_of_lt hb0)) (Nat.ne_of_lt hb0) (Heap.get?_push_of_some _ (Heap.get?_push_of_some _ e))
      · cases r₂ with
        | error e => exact hr₂
        | ok fl₂ =>
          cases fl₂ with
          | ret r =>
            obtain ⟨rfl, h', tk, rfl, hS', hk'⟩ := hr₂
            repeat (any_goals (first | assumption | wp_step))
            exact h _ _ hS' hk'
          | _ => exact hr₂.elim
    | _ => exact hr.elim
end
end K57
end part_K57P
section part_K57P2
set_option Elab.async false
set_option linter.all false
set_option maxRecDepth 100000
set_option maxHeartbeats 4000000
/-! sorted(set(text)), the rule -/
namespace K57
open PySem L2 PySem.Spec PyProof.Rows PySem.W
section
variable {P : Program} {w : World} {A : Around} {E : Value → Shared → Prop} {s : Shared} {a : Addr} {n : Nat}
theorem each_of : ∀ (vs : List Value), (∀ v ∈ vs, ∃ k t, v = Value.str k t) → ∃ xs : List Str, EachIs IsS vs xs
  | [], _ => ⟨[], .nil⟩
  | v :: vs, h => by
    obtain ⟨k, t, e⟩ := h v (List.mem_cons_self ..)
    obtain ⟨xs, q⟩ := each_of vs fun u hu => h u (List.mem_cons_of_mem _ hu)
    exact ⟨k :: xs, .cons ⟨t, e⟩ q⟩
theorem sorted_setS {Q : Value → Shared → Prop} (R : SetS P w s.heap a n) (hh : A.handled = none) (hb : n < scanBound) (hu : A.units + 2 < cLine)
    (hQ : ∀ s' p (out : List Value) (c : Nat) (xs : List Str), (∀ b o, s.heap.get? b = some o → s'.heap.get? b = some o) → s'.gens = s.gens → s'.os = s.os → s.heap.objs.size ≤ p →
      s'.heap.get? p = some (seqObj "list" out.toArray c) → EachIs IsS out xs → xs.length ≤ n → Q (.ref p) s') :
    wpAny (model P w) A (call (.builtin "sorted") [.ref a]) Q E s := by
  obtain ⟨o, es, ep, t, ho, hex, hd, hel, hn, hf, hr, hl⟩ := R
  refine Calls.call_function_entry kind_sorted plain_sorted entry_sorted (args_sorted1 _) ?_
  unfold Builtin.«sorted»
  refine wpAny_bind (m := checkCount "sorted" 1 1 _) (wpAny_pure ?_)
  refine wpAny_bind (collect_set (A := A.in1) hh ⟨o, ho, hex.1, hd⟩ hf (Nat.lt_of_le_of_lt hn hb) hr hl fun s1 vs k1 hz g1 o1 pm => ?_)
  have hvl : vs.length ≤ n := by rw [pm.length_eq, List.length_map, Array.length_toList]; exact hn
  obtain ⟨xs, hE⟩ := each_of vs fun v hv => by
    obtain ⟨e, he, q⟩ := List.mem_map.mp (pm.mem_iff.mp hv)
    obtain ⟨⟨k, hk, _⟩, _⟩ := hel e he
    obtain ⟨u, hu⟩ := Value.isStrOf_shape hk
    exact ⟨k, u, q.symm.trans hu⟩
  have hxl : xs.length = vs.length := hE.length.symm
  have hsz : vs.length ≤ sizeLine := by
    have : scanBound ≤ sizeLine := by decide
    omega
  refine wpAny_bind (wpAny_newList ?_ hsz)
  have hoL : (s1.heap.push (seqObj "list" vs.toArray 0)).get? s1.heap.objs.size = some (seqObj "list" vs.toArray 0) := Heap.get?_push_size _ rfl
  refine wpAny_bind (wpAny_holding (list_sort_data (enc := PyData.str) (bs := xs) (R := IsS) (s := { s1 with heap := s1.heap.push (seqObj "list" vs.toArray 0) }) hoL hE (hE.mono fun v b ⟨t, e⟩ => ⟨[], by rw [e]; exact .str _ _, by simp⟩) (AllAlike.of fun _ _ => rfl) (Sortable.others fun b => ⟨nofun, nofun⟩) (by rw [hxl]; exact hsz) (fun b _ => ?_) fun out hol eo => ?_))
  · have e : A.in1.units = A.units + 1 := rfl
    show A.in1.units + 1 + 0 < cLine
    omega
  rw [dataLe_str fun b : Str => b] at eo
  obtain ⟨c, hc⟩ := sortedHeap_at (vs := vs) (out := out.toArray) hoL
  refine wpAny_pure ⟨_, rfl, hQ _ s1.heap.objs.size out c (xs.mergeSort leS) (fun b u e => ?_) g1 o1 hz hc eo ?_⟩
  · have q := k1 b u e
    have hlt := Heap.lt_size q
    show (sortedHeap (s1.heap.push (seqObj "list" vs.toArray 0)) s1.heap.objs.size vs out.toArray).get? b = some u
    rw [sortedHeap_old (Nat.ne_of_lt hlt) (by rw [size_push']; exact Nat.lt_succ_of_lt hlt)]
    exact Heap.get?_push_of_some _ q
  · rw [List.length_mergeSort, hxl]; exact hvl
end
def tSortedSetT (t : TE) : TE := fun σ H Q => t σ H fun x H1 => ∃ s : Str, x = .str s ∧ s.length + 1 < scanBound ∧ ∀ (xs : List Str) (p : Addr), xs.length ≤ s.length → H1 p = none → Q (.ref p) (upd H1 p (.lst (xs.map V.str)))
theorem pe_sortedSetT {X : Cx} {a : Expr} {ta : TE} {p p2 q pos : Pos} (hc : X.calm = true) (hu : X.A.units + 2 < cLine) (hg : Gl X "sorted") (hm : X.mg "sorted" = none) (hg2 : Gl X "set") (hm2 : X.mg "set" = none) (ha : PE X a ta)
    (na : starEach [a] X.env = (false, eval a X.env) :: starEach [] X.env := by rfl) : PE X (.Call (.Name "sorted" p) [.Call (.Name "set" p2) [a] [] q] [] pos) (tSortedSetT ta) := by
  refine ⟨fun pins s σ H Q I h => ?_⟩
  refine Call_ (ld_blt I hg hm boot_sorted ?_)
  refine PyProof.Rows.callWith_builtin1 (PyProof.Rows.args_cons ?_ rfl) rfl rfl
  refine Call_ (ld_blt I hg2 hm2 boot_set ?_)
  refine PyProof.Rows.callWith_type1 (PyProof.Rows.args_cons (thn (ha.run pins s σ H _ I h) fun v s1 ⟨x, H1, I1, r1, q1⟩ => PyProof.Rows.args_nil ?_) na) na rfl
  obtain ⟨z, rfl, hz, q1⟩ := q1
  obtain ⟨t0, rfl⟩ := r1
  refine call_set_text (I1.ok.hd hc) hz fun h' tk hS hk => ?_
  refine PyProof.Rows.args_nil ?_
  have I2 : Inv X pins σ H1 { s1 with heap := h', toks := tk } := I1.kept hk
  refine sorted_setS (s := { s1 with heap := h', toks := tk }) hS (I1.ok.hd hc) (Nat.lt_of_succ_lt hz) hu fun s' p out c xs k g o hp hgt hE hxl => ?_
  have hlen : (xs.map V.str).length ≤ sizeLine := by
    rw [List.length_map]
    have : scanBound ≤ sizeLine := by decide
    have : z.cps.size = z.length := rfl
    omega
  have hn : H1 p = none := I2.hok.fresh hp
  have J : Inv X pins σ (upd H1 p (.lst (xs.map V.str))) { s1 with heap := s'.heap, gens := s'.gens, drawn := s'.drawn, toks := s'.toks } :=
    Inv.call (s := { s1 with heap := h', toks := tk }) (ch := []) I2 (Un.laid k hp hn) (I2.hok.laid k hp ⟨hlen, out, c, vals_each hE, hgt⟩) (by rw [g]; exact I2.bare) (fun _ z => nomatch z)
  have e : s' = { s1 with heap := s'.heap, gens := s'.gens, drawn := s'.drawn, toks := s'.toks } := by
    cases s'
    cases o
    rfl
  rw [e]
  exact ⟨.ref p, _, J, rfl, q1 xs p hxl hn⟩
end K57
end part_K57P2
section part_K57Q0
set_option Elab.async false
set_option linter.all false
set_option maxRecDepth 100000
set_option maxHeartbeats 4000000
/-! name = {k: v for ..}, the name a local, on one line -/
namespace K57
open PySem L2 PySem.Spec PyProof.Rows
theorem swd_true {kx vx : Expr} {gs : List Comprehension} {scope : Scope} {pos py : Pos} {y : Str} {l : Nat} {env : Env} (hk : env.scope.kind = .function) (hy : env.scope.names.lookup y = some .local) (hl : (py.line == pos.line) = true)
    (ha : (scope.names.any fun (n, k) => n == y && (k == .local || k == .cell)) = false) : swapsWith (.DictComp kx vx gs scope pos) (some (.Name y py)) l env = pure true := by
  have ky : env.kindOf y = some .local := hy
  have hb : env.blockKind = .function := by unfold Env.blockKind; rw [hk]; rfl
  unfold swapsWith
  simp only [hb, ky, ha, Expr.pos, hl]
  rfl
theorem ps_setDc {X : Cx} {i : Nat} {y : Str} {py : Pos} {kx vx tg iter : Expr} {ifs : List Expr} {scope : Scope} {own : List (Str × Nat)} {pos spos : Pos} {wi : TI} {g : TG} {tt : TT} {tk tv : TE} (hc : X.calm = true) (hN : X.N.Nodup) (hy : X.N[i]? = some y) (hyl : X.env.scope.names.lookup y = some .local)
    (hsw : swapsWith (.DictComp kx vx [⟨tg, iter, ifs, 0⟩] scope pos) (some (.Name y py)) spos.line X.env = pure true) (hi : PI X tg iter wi) (ok : BlkOk X.N X.env.scope scope own)
    (hg : ∀ (s : Shared) (H : Hp) (C : Addr) (cl : List (Str × Addr)) (fp : List Addr), PG (X.blk s H scope (compEnvC scope cl C X.env) fp) tg g) (ht : ∀ (s : Shared) (H : Hp) (C : Addr) (cl : List (Str × Addr)) (fp : List Addr), PTs (X.blk s H scope (compEnvC scope cl C X.env) fp) ifs tt)
    (hk : ∀ (s : Shared) (H : Hp) (C : Addr) (cl : List (Str × Addr)) (fp : List Addr), PE (X.blk s H scope (compEnvC scope cl C X.env) fp) kx tk)
    (he : ∀ (s : Shared) (H : Hp) (C : Addr) (cl : List (Str × Addr)) (fp : List Addr), PE (X.blk s H scope (compEnvC scope cl C X.env) fp) vx tv) (hs : ∀ x, foldedSetIterable iter X.env x = pure x := by intro _; rfl) :
    PS X (.Assign [.Name y py] (.DictComp kx vx [⟨tg, iter, ifs, 0⟩] scope pos) spos) (tAsg (tDc wi g tt tk tv (own.map (·.2))) (gName i)) := by
  refine ⟨fun pins s σ H D I h => ?_⟩
  rw [exec_Assign_Name_used _ _ _ _ hsw]
  refine wpAny_bind (wpAny_standAt (wpAny_bind ?_))
  show wpAny _ X.A (do let _ ← comprehension (.DictComp kx vx [⟨tg, iter, ifs, 0⟩] scope pos) scope X.env (firstIterPos [⟨tg, iter, ifs, 0⟩] pos) newDict false (eval iter X.env) (some (assign (.Name y py) X.env))) _ _ s
  have h : tDc wi g tt tk tv (own.map (·.2)) σ H (fun x H1 => gName i x σ H1 D.nx) := h
  refine wpAny_bind (thn (dc_core (Qf := fun _ s' => SP X pins D .next s') hc hN I hi ok hg ht hk he hs h fun L C s' m H' I' q hn f => ?_) fun _ s' hq => wpAny_pure (wpAny_pure hq))
  show wpAny _ _ (assign (.Name y py) X.env (.ref L)) _ _ _
  refine wpAny_assign_Name (store_ok2 (v := V.ref L) I' hN hy (.inl hyl) rfl (fun s2 I2 ⟨a, sb, ha⟩ => ?_) (.inr hyl))
  obtain ⟨f0, f1, f2, f3, f4, f5⟩ := f
  have haC : C ≠ a := by
    rcases ha with z | z
    · rw [z]; exact f1
    · exact fun e => f4 y a z e.symm
  refine ⟨m, hn.sameBut sb haC, fun h3 sb3 => ?_⟩
  exact ⟨_, H', I2.turned (t' := s2.toks) (fun b o hb e => (sb3.2 b hb).trans e) f0 f1 f3 f4 f5, q⟩
end K57
end part_K57Q0
section part_K57Q
set_option Elab.async false
set_option linter.all false
set_option maxRecDepth 100000
set_option maxHeartbeats 4000000
/-! the parts of Misreading.__init__ -/
namespace K57
open PySem L2 Org
section
variable {P : Program} {w : World} {K : PySem.W.Frag} {mg : Str → Option Value} {base : Heap}
/-- a table of misreadings as drawn -/
structure Tab (m : Mis) : Prop where
  asc : (m.map (·.1)).Pairwise (· < ·)
  len : m.length ≤ 12
  keys : ∀ q ∈ m, Low q.1
  imgs : ∀ q ∈ m, 1 ≤ q.2.length ∧ q.2.length ≤ 4 ∧ ∀ c ∈ q.2, Low c
theorem Tab.nd {m : Mis} (h : Tab m) : (m.map (·.1)).Nodup := h.asc.imp fun a e => Nat.ne_of_lt a e
theorem Tab.val {m : Mis} (h : Tab m) {q : Nat × Org.T} (hq : q ∈ m) : valV (kvM m) (Sum.inr (SX.S [q.1]) : Key) = some (.str (SX.S q.2)) := by
  rw [kvM_val h.nd, lookup_of_mem h.nd hq]; rfl
/-- the signs of the keys -/
def ksM (m : Mis) : List Str := m.map fun q => SX.S [q.1]
/-- .. they are in order -/
theorem Tab.sorted {m : Mis} (h : Tab m) : (ksM m).mergeSort leS = ksM m := by
  refine List.mergeSort_of_pairwise ?_
  unfold ksM
  have := h.asc
  rw [List.pairwise_map] at this ⊢
  refine this.imp fun {a b} hab => ?_
  unfold leS
  rw [decide_eq_true_iff]
  show [a.1] ≤ [b.1]
  exact List.cons_le_cons_iff.mpr (.inl hab)
theorem kvM_step {m : Mis} (h : Tab m) {i : Nat} {q : Nat × Org.T} (hq : m[i]? = some q) : putK (kvM (m.take i)) (Sum.inr (SX.S [q.1]) : Key) (V.str (SX.S q.2)) = kvM (m.take (i + 1)) := by
  have hn : q.1 ∉ (m.take i).map (·.1) := fun hin => by
    have h2 : ((m.take (i + 1)).map (·.1)).Nodup := h.nd.sublist ((List.take_sublist _ _).map _)
    rw [List.take_add_one, hq, List.map_append, List.nodup_append] at h2
    exact h2.2.2 _ hin _ (by simp) rfl
  rw [kvM_snoc hn, List.take_add_one, hq]
  rfl
/-! ### in_order -/
def spMOrd : Sp := fun vs H Q _ => ∃ (d : Addr) (m : Mis), vs = [.ref d] ∧ H d = some (.dK (kvM m)) ∧ Tab m ∧ ∀ (H' : Hp) (p : Addr), Same H H' → H p = none → H' p = some (.dK (kvM m)) → Q (.ref p) H'
abbrev nMOrd : List Str := ["images", "key", "letter"]
theorem scMOrd : FnScope nMOrd ["images"] (C8.fnScope sInOrderM) := C8.fnScope_by (by decide +kernel)
theorem cal_mord {f : Addr} {fd : FuncData} (F : C8.Fun K "in_order" "in_order" sInOrderM f fd) (hmg : mg "in_order_misreadings" = some (.ref f)) (kp : PySem.W.keepIn K (.ref f) = true) (df : fd.defaults = .none) (T : Txt K mg) : C8.Cal P w K mg base 1 "in_order_misreadings" spMOrd [] := by
  refine ⟨f, fd, ["images"], [], C8.fn0 F scMOrd (fun vs H Q E h => ?_) (fun cdv A outer s H vs Q E hr h => ?_), hmg, kp, F.binds df fun _ _ _ _ _ _ us hl => match us, hl with | [_], _ => rfl, .nil⟩
  · obtain ⟨d, m, rfl, _⟩ := h
    rfl
  · obtain ⟨d, m, rfl, hd, tm, k⟩ := h
    have hu := hu_of hr
    refine ⟨_, pss_one (ps_ret (pe_dc (own := [("letter", 2)]) (g := gName 2) (tt := tYes) rfl scMOrd.nd (pi_list (pe_callB (cr_sortedN (Nat.lt_of_le_of_lt (Nat.add_le_add_left (by decide) _) hr.units)) (by rfl) T.sorted PyProof.Rows.boot_sorted
        (pa_cons (pe_lock (pe_lc (own := [("key", 1)]) (g := gName 1) (tt := tYes) rfl scMOrd.nd (pi_keys (pv 0)) (blkOk_by (N := nMOrd) (sc := C8.fnScope sInOrderM) (by decide +kernel))
          (fun _ _ _ _ _ => pg_name (i := 1) scMOrd.nd rfl (Or.inl rfl)) (fun _ _ _ _ _ => pts_nil) (fun _ _ _ _ _ => pe_callTy SkE.call_str_str (by rfl) T.str (by decide +kernel) (pa_cons (pv 1) pa_nil)))) pa_nil)))
        (blkOk_by (N := nMOrd) (sc := C8.fnScope sInOrderM) (by decide +kernel)) (fun _ _ _ _ _ => pg_name (i := 2) scMOrd.nd rfl (Or.inl rfl)) (fun _ _ _ _ _ => pts_nil) (fun _ _ _ _ _ => pv 2) (fun _ _ _ _ _ => pe_dget hu (pv 0) (pv 2) (fun _ _ => rfl)))), ?_⟩
    refine ⟨d, _, hd, trivial, fun od => ⟨_, rfl, d, od, rfl, .inl ⟨kvM m, upd_same, ?_⟩⟩⟩
    intro D hD
    have ndD : d ≠ D := ne_of_none (upd_same (H := H)) hD
    refine lc_n (n := m.length) (fun i H7 => Same (upd H d (.frz od (.dK (kvM m)))) H7 ∧ H7 D = some (.lst ((ksM (m.take i)).map V.str))) ⟨Same.new hD, by rw [upd_same]; rfl⟩ (fun i H7 hi ⟨s7, _⟩ => ⟨s7 _ _ upd_same, by rw [kvM_len]; exact hi⟩) (fun H7 ⟨s7, _⟩ => ⟨s7 _ _ upd_same, by rw [kvM_len]; exact Nat.le_refl _⟩) ?_ ?_
    · rintro i H7 hi ⟨s7, h7⟩ x H8 ⟨rfl, key, v, hkv, rfl⟩
      obtain ⟨q, hq, rfl, rfl⟩ := kvM_get hkv
      refine ⟨rfl, _, rfl, _, rfl, _, h7, ?_, ?_, ?_⟩
      · unfold ksM
        rw [List.length_map, List.length_map, List.length_take]; have := tm.len; exact lt_line (m := 12) (by omega)
      · intro b o e
        rw [upd_ne (ne_of_none e hD)]
        exact s7 b o e
      · rw [upd_same, List.take_add_one, hq]
        simp [ksM]
    · rintro H7 ⟨s7, h7⟩
      rw [List.take_length] at h7
      have hd7 : H7 d = some (.frz od (.dK (kvM m))) := s7 _ _ upd_same
      have sU : Same H (upd H7 d (.dK (kvM m))) := same_unlock hd s7
      refine ⟨hd7, D, ksM m, rfl, SqL.of (by rw [upd_ne ndD.symm]; exact h7), fun p hp => ⟨p, rfl, ⟨_, SqL.of upd_same⟩, ?_⟩⟩
      rw [tm.sorted]
      have s8 : Same H (upd (upd H7 d (.dK (kvM m))) p (.lst ((ksM m).map V.str))) := sU.trans (Same.new hp)
      intro D2 hD2
      refine dc_n (n := m.length) (fun i H8 => Same (upd (upd H7 d (.dK (kvM m))) p (.lst ((ksM m).map V.str))) H8 ∧ H8 D2 = some (.dK (kvM (m.take i)))) ⟨Same.new hD2, by rw [upd_same]; rfl⟩ (fun i H8 hi ⟨s9, _⟩ => ?_) (fun H8 ⟨s9, _⟩ => ?_) ?_ ?_
      · exact ⟨_, .str (SX.S [m[i].1]), SqL.of (s9 _ _ upd_same), by simp [ksM, hi]⟩
      · exact ⟨_, SqL.of (s9 _ _ upd_same), by simp [ksM]⟩
      · rintro i H8 hi ⟨s9, h9⟩ x H10 ⟨rfl, hx⟩
        have hx := hx _ (SqL.of (s9 _ _ upd_same))
        obtain ⟨q, hq⟩ : ∃ q, m[i]? = some q := ⟨_, List.getElem?_eq_getElem hi⟩
        have ex : x = .str (SX.S [q.1]) := by
          have : ((ksM m).map V.str)[i]? = some (.str (SX.S [q.1])) := by simp [ksM, hq]
          exact Option.some.inj (hx.symm.trans this)
        subst ex
        refine ⟨rfl, _, rfl, _, rfl, _, rfl, d, _, rfl, .inl ⟨kvM m, (Sum.inr (SX.S [q.1]) : Key), .inl (s9 _ _ (s8 _ _ hd)), rfl, (tm.val (List.mem_of_getElem? hq)).symm⟩, _, (Sum.inr (SX.S [q.1]) : Key), rfl, h9, ?_, ?_, ?_⟩
        · rw [kvM_len, List.length_take]; have := tm.len; exact lt_line (m := 12) (by omega)
        · intro b o e
          rw [upd_ne (ne_of_none e hD2)]
          exact s9 b o e
        · rw [upd_same, kvM_step tm hq]
      · rintro H8 ⟨s9, h9⟩
        rw [List.take_length] at h9
        exact k H8 D2 (s8.trans s9) (s8.free hD2) h9
/-! ### letters_in -/
def spLet : Sp := fun vs H Q _ => ∃ (d : Addr) (m : Mis), vs = [.ref d] ∧ H d = some (.dK (kvM m)) ∧ Tab m ∧ ∀ (H' : Hp) (p : Addr) (xs : List V), Same H H' → H' p = some (.tup xs) → Q (.ref p) H'
abbrev nLet : List Str := ["images", "letter"]
theorem scLet : FnScope nLet ["images"] (C8.fnScope sLettersIn) := C8.fnScope_by (by decide +kernel)
theorem cal_letters {f : Addr} {fd : FuncData} (F : C8.Def K mg "letters_in" sLettersIn f fd) (df : fd.defaults = .none) (T : Txt K mg) : C8.Cal P w K mg base 1 "letters_in" spLet [] := by
  refine C8.cal0 F (F.fn.binds df (ps := ["images"]) fun _ _ _ _ _ _ us hl => match us, hl with | [_], _ => rfl) .nil scLet (fun vs H Q E h => ?_) (fun cdv A outer s H vs Q E hr h => ?_)
  · obtain ⟨d, m, rfl, _⟩ := h
    rfl
  · obtain ⟨d, m, rfl, hd, tm, k⟩ := h
    have hu := hu_of hr
    refine ⟨_, pss_one (ps_ret (pe_tupleOf (by rfl) T.tuple (pe_sortedSetT rfl (Nat.lt_of_le_of_lt (Nat.add_le_add_left (by decide) _) hr.units) (by rfl) T.sorted (by rfl) T.set (pe_join pe_str (pe_lock (pe_lc (own := [("letter", 1)]) (g := gName 1) (tt := tYes) rfl scLet.nd (pi_keys (pv 0)) (blkOk_by (N := nLet) (sc := C8.fnScope sLettersIn) (by decide +kernel))
          (fun _ _ _ _ _ => pg_name (i := 1) scLet.nd rfl (Or.inl rfl)) (fun _ _ _ _ _ => pts_nil) (fun _ _ _ _ _ => pe_dget hu (pv 0) (pv 1) (fun _ _ => rfl)))))))), ?_⟩
    refine ⟨⟨_, rfl⟩, d, _, hd, trivial, fun od => ⟨_, rfl, d, od, rfl, .inl ⟨kvM m, upd_same, ?_⟩⟩⟩
    intro D hD
    have ndD : d ≠ D := ne_of_none (upd_same (H := H)) hD
    refine lc_n (n := m.length) (fun i H7 => Same (upd H d (.frz od (.dK (kvM m)))) H7 ∧ H7 D = some (.lst (((m.take i).map (·.2)).map fun t => V.str (SX.S t)))) ⟨Same.new hD, by rw [upd_same]; rfl⟩ (fun i H7 hi ⟨s7, _⟩ => ⟨s7 _ _ upd_same, by rw [kvM_len]; exact hi⟩) (fun H7 ⟨s7, _⟩ => ⟨s7 _ _ upd_same, by rw [kvM_len]; exact Nat.le_refl _⟩) ?_ ?_
    · rintro i H7 hi ⟨s7, h7⟩ x H8 ⟨rfl, key, v, hkv, rfl⟩
      obtain ⟨q, hq, rfl, rfl⟩ := kvM_get hkv
      refine ⟨rfl, _, rfl, _, rfl, d, _, rfl, .inl ⟨kvM m, (Sum.inr (SX.S [q.1]) : Key), .inr ⟨_, s7 _ _ upd_same⟩, rfl, (tm.val (List.mem_of_getElem? hq)).symm⟩, _, h7, ?_, ?_, ?_⟩
      · rw [List.length_map, List.length_map, List.length_take]; have := tm.len; exact lt_line (m := 12) (by omega)
      · intro b o e
        rw [upd_ne (ne_of_none e hD)]
        exact s7 b o e
      · rw [upd_same, List.take_add_one, hq]
        simp
    · rintro H7 ⟨s7, h7⟩
      rw [List.take_length] at h7
      have hd7 : H7 d = some (.frz od (.dK (kvM m))) := s7 _ _ upd_same
      have sU : Same H (upd H7 d (.dK (kvM m))) := same_unlock hd s7
      have hfl : ((m.map (·.2)).flatten).length ≤ (m.map (·.2)).length * 4 := flat_len (n := 4) fun u hu' => by
        obtain ⟨q, hq, rfl⟩ := List.mem_map.mp hu'
        exact (tm.imgs q hq).2.1
      have hml := tm.len
      rw [List.length_map] at hfl
      refine ⟨hd7, _, D, (m.map (·.2)).map SX.S, rfl, rfl, .inl (SqL.of (by rw [upd_ne ndD.symm, h7]; simp [Function.comp_def])), ?_, ?_⟩
      · rw [sum_all]
        have e0 : (Str.ofString "").length = 0 := rfl
        rw [e0]; exact le_line (m := 48) (by omega)
      · rw [join_all]
        refine ⟨_, rfl, by rw [SX.S_len]; show _ < scanBound; unfold scanBound; omega, fun xs p _ hp => .inl ⟨p, _, rfl, SqL.of upd_same, fun q hq => ?_⟩⟩
        exact k _ q _ (sU.trans ((Same.new hp).trans (Same.new hq))) upd_same
/-! ### need_images -/
def spNeedIm : Sp := fun vs H Q _ => ∃ (d : Addr) (m : Mis), vs = [.ref d] ∧ H d = some (.dK (kvM m)) ∧ Tab m ∧ ∀ (H' : Hp), Same H H' → Q .non H'
abbrev nNeedIm : List Str := ["images", "key", "letter"]
theorem scNeedIm : FnScope nNeedIm ["images"] (C8.fnScope sNeedImages) := C8.fnScope_by (by decide +kernel)
theorem cal_need_images {f : Addr} {fd : FuncData} (F : C8.Def K mg "need_images" sNeedImages f fd) (df : fd.defaults = .none) (T : Txt K mg) (c1 : C8.Cal P w K mg base 1 "is_letter" spIsLetter []) (c2 : C8.Cal P w K mg base 2 "is_image" spIsImage []) : C8.Cal P w K mg base 3 "need_images" spNeedIm [] := by
  refine C8.cal0 F (F.fn.binds df (ps := ["images"]) fun _ _ _ _ _ _ us hl => match us, hl with | [_], _ => rfl) .nil scNeedIm (fun vs H Q E h => ?_) (fun cdv A outer s H vs Q E hr h => ?_)
  · obtain ⟨d, m, rfl, _⟩ := h
    rfl
  · obtain ⟨d, m, rfl, hd, tm, k⟩ := h
    have hu := hu_of hr
    refine ⟨_, pss_cons (ps_if (pt_not (pt_val (pe_callB call_isi (by rfl) T.isi (by decide +kernel) (pa_cons (pv 0) (pa_cons (pe_bltn (v := .ty "dict") (by rfl) T.dict (by decide +kernel) rfl) pa_nil))))) pss_never pss_nil)
      (pss_cons (ps_lock (ps_for PassesOwn.never rfl (pi_keys (pv 0)) (pg_name (i := 1) scNeedIm.nd rfl (Or.inl rfl))
        (pss_one (ps_if (pt_not (pt_val (C8.pe_c c1 hr (by decide) (by rfl) (pa_cons (pv 1) pa_nil)))) pss_never pss_nil))))
      (pss_one (ps_for PassesOwn.never rfl (pi_list (pe_callB (cr_sortedN (Nat.lt_of_le_of_lt (Nat.add_le_add_left (by decide) _) hr.units)) (by rfl) T.sorted PyProof.Rows.boot_sorted
        (pa_cons (pe_lock (pe_lc (own := [("key", 1)]) (g := gName 1) (tt := tYes) rfl scNeedIm.nd (pi_keys (pv 0)) (blkOk_by (N := nNeedIm) (sc := C8.fnScope sNeedImages) (by decide +kernel))
          (fun _ _ _ _ _ => pg_name (i := 1) scNeedIm.nd rfl (Or.inl rfl)) (fun _ _ _ _ _ => pts_nil) (fun _ _ _ _ _ => pe_callTy SkE.call_str_str (by rfl) T.str (by decide +kernel) (pa_cons (pv 1) pa_nil)))) pa_nil))) (pg_name (i := 2) scNeedIm.nd rfl (Or.inl rfl))
        (pss_one (ps_if (pt_not (pt_val (C8.pe_c c2 hr (by decide) (by rfl) (pa_cons (pe_dget hu (pv 0) (pv 2) (fun _ _ => rfl)) pa_nil)))) pss_never pss_nil))))), ?_⟩
    refine ⟨_, rfl, _, _, _, _, true, rfl, .ty "dict", .base (.dK hd), kit_ty (by decide +kernel), _, rfl, iteF ?_⟩
    refine ⟨d, _, hd, trivial, fun od => ⟨_, rfl, d, od, rfl, .inl ⟨kvM m, upd_same, ?_⟩⟩⟩
    refine for_n (n := m.length) (fun i σ H' => ∃ v1 v2, σ = [some (.ref d), v1, v2] ∧ H' = upd H d (.frz od (.dK (kvM m)))) ⟨_, _, rfl, rfl⟩ (fun i σ H' hi ⟨_, _, _, e⟩ => ⟨by rw [e]; exact upd_same, by rw [kvM_len]; exact hi⟩) (fun σ H' ⟨_, _, _, e⟩ => ⟨by rw [e]; exact upd_same, by rw [kvM_len]; exact Nat.le_refl _⟩) ?_ ?_
    · rintro i σ H' hi ⟨v1, v2, rfl, rfl⟩ x H8 ⟨rfl, key, v, hkv, rfl⟩
      obtain ⟨q, hq, rfl, rfl⟩ := kvM_get hkv
      exact ⟨_, rfl, q.1, rfl, tm.keys _ (List.mem_of_getElem? hq), _, rfl, iteF ⟨_, _, rfl, rfl⟩⟩
    · rintro σ H' ⟨v1, v2, rfl, rfl⟩
      have e0 : upd (upd H d (.frz od (.dK (kvM m)))) d (.dK (kvM m)) = H := by
        funext b
        by_cases hb : b = d
        · rw [hb, upd_same, hd]
        · rw [upd_ne hb, upd_ne hb]
      refine ⟨upd_same, ?_⟩
      rw [e0]
      refine ⟨d, _, hd, trivial, fun od => ⟨_, rfl, d, od, rfl, .inl ⟨kvM m, upd_same, ?_⟩⟩⟩
      intro D hD
      have ndD : d ≠ D := ne_of_none (upd_same (H := H)) hD
      refine lc_n (n := m.length) (fun i H7 => Same (upd H d (.frz od (.dK (kvM m)))) H7 ∧ H7 D = some (.lst ((ksM (m.take i)).map V.str))) ⟨Same.new hD, by rw [upd_same]; rfl⟩ (fun i H7 hi ⟨s7, _⟩ => ⟨s7 _ _ upd_same, by rw [kvM_len]; exact hi⟩) (fun H7 ⟨s7, _⟩ => ⟨s7 _ _ upd_same, by rw [kvM_len]; exact Nat.le_refl _⟩) ?_ ?_
      · rintro i H7 hi ⟨s7, h7⟩ x H8 ⟨rfl, key, v, hkv, rfl⟩
        obtain ⟨q, hq, rfl, rfl⟩ := kvM_get hkv
        refine ⟨rfl, _, rfl, _, rfl, _, h7, ?_, ?_, ?_⟩
        · unfold ksM
          rw [List.length_map, List.length_map, List.length_take]; have := tm.len; exact lt_line (m := 12) (by omega)
        · intro b o e
          rw [upd_ne (ne_of_none e hD)]
          exact s7 b o e
        · rw [upd_same, List.take_add_one, hq]
          simp [ksM]
      · rintro H7 ⟨s7, h7⟩
        rw [List.take_length] at h7
        have hd7 : H7 d = some (.frz od (.dK (kvM m))) := s7 _ _ upd_same
        have sU : Same H (upd H7 d (.dK (kvM m))) := same_unlock hd s7
        refine ⟨hd7, D, ksM m, rfl, SqL.of (by rw [upd_ne ndD.symm]; exact h7), fun p hp => ⟨p, rfl, ⟨_, SqL.of upd_same⟩, ?_⟩⟩
        rw [tm.sorted]
        have s8 : Same H (upd (upd H7 d (.dK (kvM m))) p (.lst ((ksM m).map V.str))) := sU.trans (Same.new hp)
        obtain ⟨Hz, hHz⟩ : ∃ Hz, Hz = upd (upd H7 d (.dK (kvM m))) p (.lst ((ksM m).map V.str)) := ⟨_, rfl⟩
        have hpz : Hz p = some (.lst ((ksM m).map V.str)) := by rw [hHz]; exact upd_same
        rw [← hHz] at s8 ⊢
        refine for_n (n := m.length) (fun i σ H' => ∃ v1 v2, σ = [some (.ref d), v1, v2] ∧ H' = Hz) ⟨_, _, rfl, rfl⟩ (fun i σ H' hi h => by obtain ⟨_, _, _, rfl⟩ := h; exact ⟨_, .str (SX.S [m[i].1]), SqL.of hpz, by simp [ksM, hi]⟩) (fun σ H' h => by obtain ⟨_, _, _, rfl⟩ := h; exact ⟨_, SqL.of hpz, by simp [ksM]⟩) ?_ ?_
        · rintro i σ H' hi ⟨v1, v2, rfl, rfl⟩ x H10 ⟨rfl, hx⟩
          have hx := hx _ (SqL.of hpz)
          obtain ⟨q, hq⟩ : ∃ q, m[i]? = some q := ⟨_, List.getElem?_eq_getElem hi⟩
          have ex : x = .str (SX.S [q.1]) := by
            have : ((ksM m).map V.str)[i]? = some (.str (SX.S [q.1])) := by simp [ksM, hq]
            exact Option.some.inj (hx.symm.trans this)
          subst ex
          have hqm := List.mem_of_getElem? hq
          exact ⟨_, rfl, _, rfl, d, _, rfl, .inl ⟨kvM m, (Sum.inr (SX.S [q.1]) : Key), .inl (s8 _ _ hd), rfl, (tm.val hqm).symm⟩, q.2, rfl, (tm.imgs q hqm).1, (tm.imgs q hqm).2.1, (tm.imgs q hqm).2.2, _, rfl, iteF ⟨_, _, rfl, rfl⟩⟩
        · rintro σ H' ⟨v1, v2, rfl, rfl⟩
          exact k _ s8
/-! ### kept_images -/
def spKept : Sp := fun vs H Q _ => ∃ (d : Addr) (m : Mis), vs = [.ref d, .str (SX.S [])] ∧ H d = some (.dK (kvM m)) ∧ Tab m ∧ ∀ (H' : Hp) (p : Addr), Same H H' → H p = none → H' p = some (.dK (kvM m)) → Q (.ref p) H'
abbrev nKept : List Str := ["images", "keeps", "stays", "letter"]
theorem scKept : FnScope nKept ["images", "keeps"] (C8.fnScope sKept) := C8.fnScope_by (by decide +kernel)
theorem merge_kvM {m : Mis} (h : Tab m) : mergeK (mergeK [] []) (kvM m) = kvM m := by
  have key : ∀ i, i ≤ m.length → mergeK [] ((kvM m).take i) = kvM (m.take i) := by
    intro i
    induction i with
    | zero => intro _; rfl
    | succ i ih =>
      intro hi
      obtain ⟨q, hq⟩ : ∃ q, m[i]? = some q := ⟨_, List.getElem?_eq_getElem hi⟩
      have e : (kvM m).take (i + 1) = (kvM m).take i ++ [((Sum.inr (SX.S [q.1]) : Key), V.str (SX.S q.2))] := by
        rw [List.take_add_one]
        unfold kvM
        rw [List.getElem?_map, hq]; rfl
      rw [e]
      unfold mergeK
      rw [List.foldl_append]
      have := ih (Nat.le_of_lt hi)
      unfold mergeK at this
      rw [this]
      exact kvM_step h hq
  have := key m.length (Nat.le_refl _)
  rw [List.take_length, show (kvM m).take m.length = kvM m by rw [← kvM_len m, List.take_length]] at this
  exact this
theorem cal_kept {f : Addr} {fd : FuncData} (F : C8.Def K mg "kept_images" sKept f fd) (df : fd.defaults = .none) (T : Txt K mg) : C8.Cal P w K mg base 1 "kept_images" spKept [] := by
  refine C8.cal0 F (F.fn.binds df (ps := ["images", "keeps"]) fun _ _ _ _ _ _ us hl => match us, hl with | [_, _], _ => rfl) .nil scKept (fun vs H Q E h => ?_) (fun cdv A outer s H vs Q E hr h => ?_)
  · obtain ⟨d, m, rfl, _⟩ := h
    rfl
  · obtain ⟨d, m, rfl, hd, tm, k⟩ := h
    have hu := hu_of hr
    refine ⟨_, pss_cons (ps_setDc (i := 2) (own := [("letter", 3)]) (g := gName 3) (tt := tYes) rfl scKept.nd rfl rfl (swd_true rfl rfl rfl (by decide +kernel)) (pi_str (pv 1)) (blkOk_by (N := nKept) (sc := C8.fnScope sKept) (by decide +kernel)) (fun _ _ _ _ _ => pg_name (i := 3) scKept.nd rfl (Or.inl rfl)) (fun _ _ _ _ _ => pts_nil) (fun _ _ _ _ _ => pv 3) (fun _ _ _ _ _ => pv 3))
      (pss_one (ps_ret (pe_merge2 (pv 2) (pv 0)))), ?_⟩
    refine ⟨_, rfl, _, rfl, ?_⟩
    intro D hD
    refine dc_n (n := 0) (fun i H8 => H8 = upd H D (.dK [])) rfl (fun i H8 hi _ => absurd hi (Nat.not_lt_zero _)) (fun H8 _ => by show _ ≤ _; exact Nat.le_refl _) (fun i H8 hi _ => absurd hi (Nat.not_lt_zero _)) ?_
    rintro H8 rfl
    have ndD : d ≠ D := ne_of_none hd hD
    intro p hp
    have npD : D ≠ p := ne_of_none (upd_same (H := H)) hp
    have ndp : d ≠ p := ne_of_none (show upd H D _ d = _ by rw [upd_ne ndD]; exact hd) hp
    have hp0 : H p = none := by rw [upd_ne npD.symm] at hp; exact hp
    refine ⟨_, rfl, D, [], rfl, by rw [upd_ne npD]; exact upd_same, npD, upd_same, by decide, _, rfl, d, kvM m, rfl, by rw [upd_ne ndp, upd_ne ndp, upd_ne ndD]; exact hd, ndp, upd_same, by rw [kvM_len]; have := tm.len; omega, ?_⟩
    refine k _ p (fun b o e => ?_) hp0 (by rw [upd_same, merge_kvM tm])
    rw [upd_ne (ne_of_none e hp0), upd_ne (ne_of_none e hp0), upd_ne (ne_of_none e hp0), upd_ne (ne_of_none e hD)]
    exact e
end
end K57
end part_K57Q
section part_K57QA
set_option Elab.async false
set_option linter.all false
set_option maxRecDepth 100000
set_option maxHeartbeats 4000000
/-! Misreading.__init__ -/
namespace K57
open PySem L2 Org
section
variable {P : Program} {w : World} {K : PySem.W.Frag} {mg : Str → Option Value} {base : Heap}
theorem fun_binds1 {x qual : Str} {st : Stmt} {f : Addr} {fd : FuncData} {dvs : List V} {ps : List Str} (F : C8.Fun K x qual st f fd) (hD : DflV K fd.defaults dvs) (n : Nat) (hd : dvs ≠ []) (hn : n + dvs.length = ps.length)
    (h : ∀ (T : Addr) (kV doc pm : Value) (an : Option Addr) (cdv ct : Value) (us its : List Value), us.length = n → its.length = dvs.length →
      ∃ k, bindArgs (PySem.W.fnOf x qual (C8.fnArgs st) (C8.fnBody st) (C8.fnScope st) (.ref T) kV doc pm an cdv ct) ⟨us, []⟩ = seqItems? (.ref T) >>= k ∧ k (some its.toArray) = pure (ps.zip (us ++ its))) : ∃ ds, Vals dvs ds ∧ L2.Binds K fd ps ds := by
  obtain ⟨oc, od, dV, kV, doc, pm, an, cdv, ct, osl, rfl, lk, hcd⟩ := F.ex
  rcases hD with ⟨e, _⟩ | ⟨_, T, o, its, m, eT, lT, oT, rT⟩
  · exact absurd e hd
  · have eT : dV = .ref T := eT
    subst eT
    refine ⟨its, rT, fun s us X hlen => ?_⟩
    have l1 : its.length = dvs.length := rT.length.symm
    have l2 : us.length = n := by
      rw [List.length_append, l1] at hlen
      omega
    obtain ⟨k, e1, e2⟩ := h T kV doc pm an cdv ct us its l2 l1
    refine BindsTo.of_looks fun M => ?_
    rw [e1]
    exact looks_items X lT oT (.of_pure e2)
def spMis (CM : Addr) : Sp := fun vs H Q _ => ∃ (a dx d : Addr) (m : Mis), vs = [.ref a, .ref d, .str (SX.S [])] ∧ H a = some (.ins CM dx []) ∧ H d = some (.dK (kvM m)) ∧ Tab m ∧
  ∀ (H' : Hp), Keep a H H' → MisAt H' CM a m → Q .non H'
abbrev nMis : List Str := ["self", "images", "keeps", "found", "letter"]
theorem scMis : FnScope nMis ["self", "images", "keeps"] (C8.fnScope sMis) := C8.fnScope_by (by decide +kernel)
theorem low_nil : ∀ c ∈ ([] : List Nat), Low c := fun c hc => by cases hc
theorem S_nil : SX.S [] = Str.ofString "" := rfl
theorem mak_mis {f CM : Addr} {fd : FuncData} (M : Mk K CM f) (hmg : mg "Misreading" = some (.ref CM)) (F : C8.Fun K "__init__" "Misreading.__init__" sMis f fd) (hD : DflV K fd.defaults [.str (SX.S [])]) (T : Txt K mg) (cl : Cls K CM)
    (n1 : NoAttr K CM "images") (n2 : NoAttr K CM "letters") (n3 : NoAttr K CM "reached") (n4 : NoAttr K CM "changed")
    (c1 : C8.Cal P w K mg base 3 "need_images" spNeedIm []) (c2 : C8.Cal P w K mg base 1 "is_text" spIsText []) (c3 : C8.Cal P w K mg base 1 "kept_images" spKept []) (c4 : C8.Cal P w K mg base 1 "need_few" spNeedFew [])
    (c5 : C8.Cal P w K mg base 1 "in_order_misreadings" spMOrd []) (c6 : C8.Cal P w K mg base 1 "letters_in" spLet []) : C8.Mak P w K mg base 4 "Misreading" CM (spMis CM) [.str (SX.S [])] := by
  obtain ⟨ds, rd, bd⟩ := fun_binds1 (ps := ["self", "images", "keeps"]) F hD 2 (by simp) rfl fun T kV doc pm an cdv ct us its l1 l2 => match us, its, l1, l2 with | [_, _], [_], _, _ => ⟨_, rfl, rfl⟩
  refine C8.mak0 M hmg F bd rd scMis (fun vs H Q E h => ?_) (fun cdv A outer s H vs Q E hr h => ?_)
  · obtain ⟨a, dx, d, m, rfl, _⟩ := h
    rfl
  · obtain ⟨a, dx, d, m, rfl, ha, hd, tm, k⟩ := h
    have hu := hu_of hr
    refine ⟨_, pss_cons (ps_expr (C8.pe_c c1 hr (by decide) (by rfl) (pa_cons (pv 1) pa_nil)))
      (pss_cons (ps_if (pt_not (pt_val (C8.pe_c c2 hr (by decide) (by rfl) (pa_cons (pv 2) pa_nil)))) pss_never pss_nil)
      (pss_cons (ps_set (i := 3) scMis.nd rfl (Or.inl rfl) (C8.pe_c c3 hr (by decide) (by rfl) (pa_cons (pv 1) (pa_cons (pv 2) pa_nil))))
      (pss_cons (ps_expr (C8.pe_c c4 hr (by decide) (by rfl) (pa_cons (pv 3) pa_nil)))
      (pss_cons (ps_fld (pv 0) (C8.pe_c c5 hr (by decide) (by rfl) (pa_cons (pv 3) pa_nil)) (by rfl))
      (pss_cons (ps_fld (pv 0) (pe_tupleOf (by rfl) T.tuple (pe_lock (pe_lc (own := [("letter", 4)]) (g := gName 4) (tt := tYes) rfl scMis.nd (pi_keys (pe_fldK (K' := K) (by rfl) (pv 0))) (blkOk_by (N := nMis) (sc := C8.fnScope sMis) (by decide +kernel))
          (fun _ _ _ _ _ => pg_name (i := 4) scMis.nd rfl (Or.inl rfl)) (fun _ _ _ _ _ => pts_nil) (fun _ _ _ _ _ => pv 4)))) (by rfl))
      (pss_cons (ps_fld (pv 0) (C8.pe_c c6 hr (by decide) (by rfl) (pa_cons (pe_fldK (K' := K) (by rfl) (pv 0)) pa_nil)) (by rfl))
      (pss_one (ps_fld (pv 0) (pe_tupleOf (by rfl) T.tuple (pe_lock (pe_lc (own := [("letter", 4)]) (g := gName 4)  rfl scMis.nd (pi_keys (pe_fldK (K' := K) (by rfl) (pv 0))) (blkOk_by (N := nMis) (sc := C8.fnScope sMis) (by decide +kernel))
          (fun _ _ _ _ _ => pg_name (i := 4) scMis.nd rfl (Or.inl rfl)) (fun _ _ _ _ _ => pts_one (pt_cmpR op_ne (pe_dget hu (pe_fldK (K' := K) (by rfl) (pv 0)) (pv 4) (fun _ _ => rfl)) (pv 4) (nomark _))) (fun _ _ _ _ _ => pv 4)))) (by rfl))))))))), ?_⟩
    refine ⟨_, rfl, d, m, rfl, hd, tm, fun H1 s1 => ?_⟩
    refine ⟨_, rfl, [], rfl, Nat.zero_le _, low_nil, _, rfl, iteF ?_⟩
    refine ⟨_, rfl, _, rfl, d, m, rfl, s1 _ _ hd, tm, fun H2 e s2 hne he => ?_⟩
    have hml := tm.len
    refine ⟨_, rfl, e, kvM m, rfl, he, by rw [kvM_len]; exact hml, ?_⟩
    refine ⟨_, rfl, e, m, rfl, he, tm, fun H3 p s3 hnp hp3 => ?_⟩
    have ha3 : H3 a = some (.ins CM dx []) := s3 _ _ (s2 _ _ (s1 _ _ ha))
    have npa : p ≠ a := ne_of hp3 ha3 (fun z => nomatch z)
    refine ⟨_, rfl, a, CM, dx, [], rfl, ha3, cl, n1, by decide, ?_⟩
    obtain ⟨f1, hf1⟩ : ∃ f1, f1 = putF "images" (.ref p) [] := ⟨_, rfl⟩
    have l1 : f1.lookup (Str.ofString "images") = some (.ref p) := by rw [hf1]; rfl
    have z1 : f1.length = 1 := by rw [hf1]; rfl
    rw [← hf1]
    obtain ⟨H4, hH4⟩ : ∃ H4, H4 = upd H3 a (.ins CM dx f1) := ⟨_, rfl⟩
    rw [← hH4]
    have ha4 : H4 a = some (.ins CM dx f1) := by rw [hH4]; exact upd_same
    have hp4 : H4 p = some (.dK (kvM m)) := by rw [hH4, upd_ne npa]; exact hp3
    have k4 : Keep a H H4 := by rw [hH4]; exact (Keep.of (s1.trans (s2.trans s3))).trans Keep.put
    refine ⟨p, _, hp4, trivial, fun od => ⟨_, rfl, a, CM, dx, f1, _, rfl, by rw [upd_ne npa.symm]; exact ha4, cl, n1, l1, p, od, rfl, .inl ⟨kvM m, upd_same, ?_⟩⟩⟩
    intro D hD
    have ndD : p ≠ D := ne_of_none (upd_same (H := H4)) hD
    refine lc_n (n := m.length) (fun i H7 => Same (upd H4 p (.frz od (.dK (kvM m)))) H7 ∧ ∃ acc, H7 D = some (.lst acc) ∧ acc.length ≤ i) ⟨Same.new hD, _, upd_same, Nat.le_refl _⟩ (fun i H7 hi ⟨s7, _⟩ => ⟨s7 _ _ upd_same, by rw [kvM_len]; exact hi⟩) (fun H7 ⟨s7, _⟩ => ⟨s7 _ _ upd_same, by rw [kvM_len]; exact Nat.le_refl _⟩) ?_ ?_
    · rintro i H7 hi ⟨s7, acc, h7, h7l⟩ x H8 ⟨rfl, key, v, hkv, rfl⟩
      refine ⟨rfl, _, rfl, acc, h7, lt_line (m := 12) (by omega), fun b o e => ?_, _, upd_same, by simp; omega⟩
      rw [upd_ne (ne_of_none e hD)]
      exact s7 b o e
    · rintro H7 ⟨s7, acc, h7, h7l⟩
      have hd7 : H7 p = some (.frz od (.dK (kvM m))) := s7 _ _ upd_same
      have sU : Same H4 (upd H7 p (.dK (kvM m))) := same_unlock hp4 s7
      refine ⟨hd7, .inl ⟨D, _, rfl, SqL.of (by rw [upd_ne ndD.symm]; exact h7), fun q hq => ?_⟩⟩
      have s5 := sU.trans (Same.new (o := .tup acc) hq)
      refine ⟨_, rfl, a, CM, dx, f1, rfl, s5 _ _ ha4, cl, n2, by rw [z1]; decide, ?_⟩
      obtain ⟨f2, hf2⟩ : ∃ f2, f2 = putF "letters" (.ref q) f1 := ⟨_, rfl⟩
      have l2 : f2.lookup (Str.ofString "images") = some (.ref p) := by rw [hf2, hf1]; rfl
      have z2 : f2.length = 2 := by rw [hf2, hf1]; rfl
      rw [← hf2]
      have k5 := k4.trans ((Keep.of s5).trans (Keep.put (p := a) (o := .ins CM dx f2)))
      have hp5 : upd (upd (upd H7 p (.dK (kvM m))) q (.tup acc)) a (.ins CM dx f2) p = some (.dK (kvM m)) := by rw [upd_ne npa]; exact s5 _ _ hp4
      refine ⟨_, rfl, a, CM, dx, f2, _, rfl, upd_same, cl, n1, l2, p, m, rfl, hp5, tm, fun H6 r xs s6 hr6 => ?_⟩
      refine ⟨_, rfl, a, CM, dx, f2, rfl, s6 _ _ upd_same, cl, n3, by rw [z2]; decide, ?_⟩
      obtain ⟨f3, hf3⟩ : ∃ f3, f3 = putF "reached" (.ref r) f2 := ⟨_, rfl⟩
      have l3 : f3.lookup (Str.ofString "images") = some (.ref p) := by rw [hf3, hf2, hf1]; rfl
      have z3 : f3.length = 3 := by rw [hf3, hf2, hf1]; rfl
      rw [← hf3]
      obtain ⟨H9, hH9⟩ : ∃ H9, H9 = upd H6 a (.ins CM dx f3) := ⟨_, rfl⟩
      rw [← hH9]
      have ha9 : H9 a = some (.ins CM dx f3) := by rw [hH9]; exact upd_same
      have hp9 : H9 p = some (.dK (kvM m)) := by rw [hH9, upd_ne npa]; exact s6 _ _ hp5
      have k9 : Keep a H H9 := by rw [hH9]; exact k5.trans ((Keep.of s6).trans Keep.put)
      refine ⟨p, _, hp9, trivial, fun od => ⟨_, rfl, a, CM, dx, f3, _, rfl, by rw [upd_ne npa.symm]; exact ha9, cl, n1, l3, p, od, rfl, .inl ⟨kvM m, upd_same, ?_⟩⟩⟩
      intro D hD
      have ndD : p ≠ D := ne_of_none (upd_same (H := H9)) hD
      refine lc_n (n := m.length) (fun i H7 => Same (upd H9 p (.frz od (.dK (kvM m)))) H7 ∧ ∃ acc, H7 D = some (.lst acc) ∧ acc.length ≤ i) ⟨Same.new hD, _, upd_same, Nat.le_refl _⟩ (fun i H7 hi ⟨s7, _⟩ => ⟨s7 _ _ upd_same, by rw [kvM_len]; exact hi⟩) (fun H7 ⟨s7, _⟩ => ⟨s7 _ _ upd_same, by rw [kvM_len]; exact Nat.le_refl _⟩) ?_ ?_
      · rintro i H7 hi ⟨s7, acc, h7, h7l⟩ x H8 ⟨rfl, key, v, hkv, rfl⟩
        obtain ⟨q, hq, rfl, rfl⟩ := kvM_get hkv
        have hqm := List.mem_of_getElem? hq
        refine ⟨rfl, _, rfl, a, CM, dx, f3, _, rfl, s7 _ _ (by rw [upd_ne npa.symm]; exact ha9), cl, n1, l3, _, rfl, p, _, rfl, .inl ⟨kvM m, (Sum.inr (SX.S [q.1]) : Key), .inr ⟨_, s7 _ _ upd_same⟩, rfl, (tm.val hqm).symm⟩, _, rfl, ?_⟩
        refine ⟨rfl, _, rfl, ite2 (fun _ => ?_) (fun _ => ?_)⟩
        · refine ⟨_, rfl, acc, h7, lt_line (m := 12) (by omega), fun b o e => ?_, _, upd_same, by simp; omega⟩
          rw [upd_ne (ne_of_none e hD)]
          exact s7 b o e
        · exact ⟨s7, acc, h7, by omega⟩
      · rintro H7 ⟨s7, acc, h7, h7l⟩
        have hd7 : H7 p = some (.frz od (.dK (kvM m))) := s7 _ _ upd_same
        have sU : Same H9 (upd H7 p (.dK (kvM m))) := same_unlock hp9 s7
        refine ⟨hd7, .inl ⟨D, _, rfl, SqL.of (by rw [upd_ne ndD.symm]; exact h7), fun q hq => ?_⟩⟩
        have s5 := sU.trans (Same.new (o := .tup acc) hq)
        refine ⟨_, rfl, a, CM, dx, f3, rfl, s5 _ _ ha9, cl, n4, by rw [z3]; decide, ?_⟩
        refine k _ (k9.trans ((Keep.of s5).trans Keep.put)) ⟨dx, p, _, upd_same, ?_, by rw [upd_ne npa]; exact s5 _ _ hp9⟩
        rw [hf3, hf2, hf1]; rfl
end
end K57
end part_K57QA
section part_K57QB
set_option Elab.async false
set_option linter.all false
set_option maxRecDepth 100000
set_option maxHeartbeats 4000000
/-! enumerate(t), t a tuple -/
namespace K57
open PySem L2 PySem.Spec PyProof.Rows
open AutoSeq1 (wpAny_loadPart')
theorem meets_enumT (l : Addr) (items : Array Value) (n : Nat) (dct : Option Addr) (sl : Array (Option Value)) :
    Meets (Builtin.«enumerate.__new__» ⟨[.type "enumerate", .ref l], []⟩) (fun _ R s => s.heap.get? l = some { cls := .type "tuple", dict := dct, data := .seq items n, slots := sl } ∧
      R (.ok (.ret (.ref (s.heap.push { cls := .type "tuple_iterator", data := .fields #[.ref l, .int 0 0] }).objs.size)))
        { s with heap := (s.heap.push { cls := .type "tuple_iterator", data := .fields #[.ref l, .int 0 0] }).push { cls := .type "enumerate", data := .fields #[.none, .bool false, .ref s.heap.objs.size, rawInt 0, .none, .none] } }) :=
  .of_wp fun prog w A R s h => by
    obtain ⟨hp, g, d, tk, os⟩ := s; obtain ⟨hl, h⟩ := h
    have hsub := sub_enumerate
    have hL : Heap.IsTuple (Shared.heap ⟨hp, g, d, tk, os⟩) l items := ⟨_, hl, rfl, n, rfl⟩
    wp_walk using wpAny_loadPart' hl
    refine wpAny_stack_any fun st => wpAny_pure ?_
    split
    · rename_i c _ _ _ _ _
      cases (c == Value.type "enumerate")
      · wp_walk using wpAny_loadPart' hl, wpAny_pyIter_tuple hL
        exact ⟨_, rfl, h⟩
      · wp_walk using wpAny_loadPart' hl, wpAny_pyIter_tuple hL
        exact ⟨_, rfl, h⟩
    · wp_walk using wpAny_loadPart' hl, wpAny_pyIter_tuple hL
      exact ⟨_, rfl, h⟩
section
variable {prog : Program} {w : World} {A : Around} {E : Value → Shared → Prop} {s : Shared}
theorem call_enumT {l : Addr} {items : Array Value} {Q : Value → Shared → Prop} (hL : s.heap.IsTuple l items)
    (h : ∀ h', IsEnum h' (s.heap.objs.size + 1) s.heap.objs.size 0 .none → h'.get? s.heap.objs.size = some { cls := .type "tuple_iterator", data := .fields #[.ref l, .int 0 0] } → h'.objs.size = s.heap.objs.size + 2 →
      (∀ b o, s.heap.get? b = some o → h'.get? b = some o) → Q (.ref (s.heap.objs.size + 1)) { s with heap := h' }) :
    wpAny (model prog w) A (call (.type "enumerate") [.ref l]) Q E s := by
  obtain ⟨⟨c, dct, dt, sl⟩, hl, hc, n, hd⟩ := hL
  replace hc : c = .type "tuple" := hc
  replace hd : dt = .seq items n := hd
  subst hc hd
  refine callType_new F.called_enumerate (by decide) (F.typeCall_enumerate_1 _) (F.newCall_enumerate_1 _) (fun obj => F.args_object_init_2 obj _) F.entry_enumerate_new
    (meets_enumT l items n dct sl) ⟨hl, ?_⟩
  have hz : (s.heap.push { cls := .type "tuple_iterator", data := .fields #[.ref l, .int 0 0] }).objs.size = s.heap.objs.size + 1 := Heap.size_push ..
  show _ ∧ _
  rw [hz]
  have he : IsEnum ((s.heap.push { cls := .type "tuple_iterator", data := .fields #[.ref l, .int 0 0] }).push
      { cls := .type "enumerate", data := .fields #[.none, .bool false, .ref s.heap.objs.size, rawInt 0, .none, .none] }) (s.heap.objs.size + 1) s.heap.objs.size 0 .none := by
    have := Heap.get?_push_size (s.heap.push { cls := .type "tuple_iterator", data := .fields #[.ref l, .int 0 0] })
      (o := { cls := .type "enumerate", data := .fields #[.none, .bool false, .ref s.heap.objs.size, rawInt 0, .none, .none] }) rfl
    rw [hz] at this; exact this
  refine ⟨⟨_, he, rfl⟩, h _ he (Heap.get?_push_of_some _ (Heap.get?_push_size _ rfl)) (by rw [Heap.size_push, hz]) fun b o x => Heap.get?_push_of_some _ (Heap.get?_push_of_some _ x)⟩
end
/-- a list or a tuple -/
def SqB (b : Bool) (K : PySem.W.Frag) (H : Hp) (a : Addr) (xs : List V) : Prop := match b with
  | true => SqL K H a xs
  | false => SqT K H a xs
def IteB (b : Bool) (K : PySem.W.Frag) (a : Addr) (xs : List V) : It :=
  ⟨fun i H => SqB b K H a xs ∧ i < xs.length, fun i H v H' => ∃ T x, v = .ref T ∧ H T = none ∧ H' = upd H T (.tup [.int (i : Nat), x]) ∧ xs[i]? = some x, fun i H => SqB b K H a xs ∧ xs.length ≤ i⟩
theorem turn_enumL {P : Program} {w : World} {K : PySem.W.Frag} {elts : List Expr} {kk : Nat} {tpos : Pos} (a e it : Addr) (xs : List V) :
    Turn P w K (.Tuple elts kk tpos) (IteB true K a xs) [e, it] e (fun i h => (∃ old, IsEnum h e it ((i : Nat) : Int) old) ∧ h.IsListIter it a i ∧ e ≠ it) := by
  have T := turn_enum (P := P) (w := w) (K := K) (elts := elts) (kk := kk) (tpos := tpos) a e it
  refine ⟨T.mem, T.obj, T.keep, ?_, ?_, T.self⟩
  · intro X hP hw hK hc i pins s σ H E I hf st hg
    have hx : xs[i]? = some (xs[i]'hg.2) := List.getElem?_eq_getElem hg.2
    refine wpAny_mono (T.item X hP hw hK hc i pins s σ H E I hf st ⟨xs, _, hg.1, hx⟩) (fun r s' q => ?_) fun _ _ q => q
    obtain ⟨v, rfl, q⟩ := q
    refine ⟨v, rfl, ?_⟩
    refine wpAny_mono q (fun r s' q => ?_) fun _ _ q => q
    obtain ⟨y, H', I', ry, ⟨T', x', hy, hT', hH', hx'⟩, r2⟩ := q
    exact ⟨y, H', I', ry, ⟨T', x', hy, hT', hH', hx' xs hg.1⟩, r2⟩
  · intro X hP hw hK hc i pins s σ H E I hf st hg
    exact T.done X hP hw hK hc i pins s σ H E I hf st ⟨xs, hg.1, hg.2⟩
theorem turn_enumT {P : Program} {w : World} {K : PySem.W.Frag} {elts : List Expr} {kk : Nat} {tpos : Pos} (a e it : Addr) (xs : List V) :
    Turn P w K (.Tuple elts kk tpos) (IteB false K a xs) [e, it] e (fun i h => (∃ old, IsEnum h e it ((i : Nat) : Int) old) ∧ h.IsTupleIter it a i ∧ e ≠ it) where
  mem := by simp
  obj := fun i h st b hb => by
    obtain ⟨⟨old, he⟩, ⟨o, ho, hc, hd⟩, _⟩ := st
    have e' : b = e ∨ b = it := by simpa using hb
    rcases e' with z | z
    · rw [z]; exact ⟨_, he, fun v q => nomatch q⟩
    · rw [z]; exact ⟨o, ho, fun v q => by rw [hd] at q; cases q⟩
  keep := fun i h h' st k => let ⟨⟨old, he⟩, hi, hne⟩ := st; ⟨⟨old, k e (by simp) _ he⟩, hi.at fun o q => k it (by simp) o q, hne⟩
  item := by
    intro X hP hw hK hc i pins s σ H E I hf st hg
    subst hP hw hK
    obtain ⟨⟨old, he⟩, hit, hne⟩ := st
    obtain ⟨hq, hlt⟩ := hg
    have hq : SqT X.K H a xs := hq
    have hx : xs[i]? = some xs[i] := List.getElem?_eq_getElem hlt
    obtain ⟨its, rv, p, hz⟩ := I.tuple hq
    obtain ⟨u, hu, ru⟩ := rv.get hx
    have hel : e < s.heap.objs.size := Heap.lt_size he
    have hil : it < s.heap.objs.size := by obtain ⟨_, q, _⟩ := hit; exact Heap.lt_size q
    have pT : s.heap.IsTuple a its.toArray := p
    have nai : a ≠ it := fun z => by
      obtain ⟨o1, h1, c1, _⟩ := pT
      obtain ⟨o2, h2, c2, _⟩ := hit
      rw [z, h2] at h1
      cases h1
      rw [c1] at c2
      exact absurd (Value.type.inj c2) (by decide)
    have nae : e ≠ a := fun z => by
      obtain ⟨o1, h1, c1, _⟩ := pT
      rw [← z, he] at h1
      cases h1
      exact absurd (Value.type.inj c1) (by decide)
    have hlen := rv.length
    have D := Draws.tuple (prog := X.prog) (w := X.w) (A := X.A.in1) (I.ok.hd hc) it a nai its.toArray
    refine wpAny_pyNext_enum_itemD D he ⟨hit, pT⟩ (by simp; omega) hne (by simp only [List.mem_cons, List.not_mem_nil, or_false, not_or]; exact ⟨hne, nae⟩) fun x h' tk hPx ho hst' hT hsz hk => ?_
    have ex : x = u := by
      have h1 : its[i]? = some x := by simpa using hPx
      exact Option.some.inj (h1.symm.trans hu)
    subst ex
    have hit' := hst'.1
    refine ⟨_, rfl, wpAny_letOwnedTupleGo_enum (s := { s with heap := h', toks := tk + 1 }) ho fun h'' he' sb => ?_⟩
    have hT2 : h''.get? s.heap.objs.size = some { cls := .type "tuple", data := .seq #[.int i tk, x] } := (sb.2 _ (Nat.ne_of_gt hel)).trans hT
    have new : ObjOk X.prog X.w (upd H s.heap.objs.size (.tup [.int (i : Nat), xs[i]])) h'' s.heap.objs.size (.tup [.int (i : Nat), xs[i]]) :=
      ⟨by show 2 ≤ sizeLine; decide, [.int i tk, x], .cons ⟨_, rfl⟩ (.cons ru .nil), ⟨_, hT2, rfl, _, rfl⟩⟩
    have I1 : L2.Inv X pins σ (upd H s.heap.objs.size (.tup [.int (i : Nat), xs[i]])) { s with heap := h'', toks := tk + 1 } :=
      I.turnedNew (ch := [e, it]) (fun b ob hb q => (sb.2 b (fun z => hb (by simp [z]))).trans (hk b ob (fun z => hb (by simp [z])) (fun z => hb (by simp [z])) q)) hf (Nat.le_refl _) new
    refine ⟨.ref s.heap.objs.size, _, I1, rfl, ⟨_, xs[i], rfl, I.hok.fresh (Nat.le_refl _), rfl, hx⟩, ⟨⟨x, ?_⟩, hit'.at fun o q => (sb.2 it (Ne.symm hne)).trans q, hne⟩, fun b hb => ?_⟩
    · have e1 : ((i + 1 : Nat) : Int) = (i : Int) + 1 := by omega
      rw [e1]; exact he'
    · have hb' : b < s.heap.objs.size := by
        have e' : b = e ∨ b = it := by simpa using hb
        rcases e' with z | z
        · rw [z]; exact hel
        · rw [z]; exact hil
      rw [upd_ne (Nat.ne_of_lt hb')]
      exact (hf b hb).1
  done := by
    intro X hP hw hK hc i pins s σ H E I hf st hg
    subst hP hw hK
    obtain ⟨⟨old, he⟩, hit, hne⟩ := st
    obtain ⟨hq, hx⟩ := hg
    have hq : SqT X.K H a xs := hq
    obtain ⟨its, rv, p, hz⟩ := I.tuple hq
    have pT : s.heap.IsTuple a its.toArray := p
    obtain ⟨f0, f1, f2, f3, f4, f5⟩ := hf it (by simp)
    have hl := rv.length
    unfold pyNext
    have hT : s.TypeIs (.ref e) "enumerate" := ⟨_, he, rfl⟩
    refine wpAny_bind (wpAny_attempt (wpAny_callSpecial?_slot (name := Str.ofString "__next__") hT F.slot_enumerate_next
      (wpAny_call_entry F.slot_enumerate_next hT F.entry_enumerate_next ?_ (F.args_enumerate_next_1 _))))
    show wpAny _ _ (field (.ref e) 2 >>= _) _ _ _
    refine wpAny_bind (wpAny_field he rfl (x := .ref it) rfl ?_)
    refine wpAny_bind (wpAny_nextOf_tuple_end (I.ok.hd hc) hit pT (by simp; omega) fun h' x he' hx' => ?_)
    obtain ⟨o, ho, hc⟩ := hx'
    refine wpAny_bind (wpAny_isInstance (T := "StopIteration") (b := true) ⟨o, ho, hc⟩ isSubtype_stop ?_)
    exact wpAny_pure ⟨rfl, I.turned (t' := s.toks) (fun b o hb q => he' b o hb q) f0 f1 f3 f4 f5⟩
  self := fun A i s Q E st h => let ⟨⟨_, he⟩, _⟩ := st; wpAny_pyIter_enum he h
def iEnumB (K : PySem.W.Frag) (ta : TA) : TI := fun σ H R => ta σ H fun vs H1 => ∃ b a xs, vs = [.ref a] ∧ SqB b K H1 a xs ∧ R (IteB b K a xs) H1
theorem pi_enumB {X : Cx} {e : Expr} {ta : TA} {p pos tpos : Pos} {elts : List Expr} {kk : Nat} (hg : Gl X "enumerate") (hm : X.mg "enumerate" = none) (ha : PA X [e] ta) (hs : starEach [e] X.env = [(false, eval e X.env)] := by rfl) :
    PI X (.Tuple elts kk tpos) (.Call (.Name "enumerate" p) [e] [] pos) (iEnumB X.K ta) := by
  refine ⟨fun pins s σ H R I h => ?_⟩
  refine Call_ (ld_blt I hg hm boot_enumerate (PyProof.Rows.callWith_type1 (thn (ha.run pos pins s σ H _ I h) fun us s1 ⟨vs, H1, I1, r1, q1⟩ => ?_) hs rfl))
  obtain ⟨b, a, xs, ex, hq, q⟩ := q1
  subst ex
  cases r1 with
  | cons r rr =>
    cases rr
    cases r
    have fresh : ∀ b ∈ [s1.heap.objs.size + 1, s1.heap.objs.size], FpOk X pins H1 b := fun b hb => by
      have e' : b = s1.heap.objs.size + 1 ∨ b = s1.heap.objs.size := by simpa using hb
      have hle : s1.heap.objs.size ≤ b := by
        rcases e' with z | z
        · rw [z]; exact Nat.le_add_right _ _
        · rw [z]; exact Nat.le_refl _
      exact I1.fpOk hle (I1.hok.fresh hle)
    cases b with
    | true =>
      obtain ⟨its, rv, p', hz⟩ := I1.list hq
      refine call_enumerate_list p'.isList fun h' he hit hsz hk => wpAny_pyIter_enum he ?_
      have I2 : L2.Inv X pins σ H1 { s1 with heap := h' } := I1.kept (t' := s1.toks) hk
      exact ⟨s1.heap.objs.size + 1, [s1.heap.objs.size + 1, s1.heap.objs.size], _, _, H1, rfl, I2, turn_enumL a (s1.heap.objs.size + 1) s1.heap.objs.size xs, ⟨⟨.none, he⟩, hit, Nat.succ_ne_self _⟩, fresh, q⟩
    | false =>
      obtain ⟨its, rv, p', hz⟩ := I1.tuple hq
      refine call_enumT (show s1.heap.IsTuple a its.toArray from p') fun h' he hit hsz hk => wpAny_pyIter_enum he ?_
      have I2 : L2.Inv X pins σ H1 { s1 with heap := h' } := I1.kept (t' := s1.toks) hk
      exact ⟨s1.heap.objs.size + 1, [s1.heap.objs.size + 1, s1.heap.objs.size], _, _, H1, rfl, I2, turn_enumT a (s1.heap.objs.size + 1) s1.heap.objs.size xs, ⟨⟨.none, he⟩, ⟨_, hit, rfl, rfl⟩, Nat.succ_ne_self _⟩, fresh, q⟩
end K57
end part_K57QB
section part_K57QC
set_option Elab.async false
set_option linter.all false
set_option maxRecDepth 100000
set_option maxHeartbeats 4000000
/-! need_misreadings -/
namespace K57
open PySem L2 Org
section
variable {P : Program} {w : World} {K : PySem.W.Frag} {mg : Str → Option Value} {base : Heap}
def LotAt (H : Hp) (l : Addr) (xs : List V) (b : Bool) : Prop := (b = true ∧ H l = some (.lst xs)) ∨ (b = false ∧ H l = some (.tup xs))
theorem LotAt.same {H H' : Hp} {l : Addr} {xs : List V} {b : Bool} (h : LotAt H l xs b) (s : Same H H') : LotAt H' l xs b := by
  rcases h with ⟨e, h⟩ | ⟨e, h⟩
  · exact .inl ⟨e, s _ _ h⟩
  · exact .inr ⟨e, s _ _ h⟩
theorem LotAt.sq {K : PySem.W.Frag} {H : Hp} {l : Addr} {xs : List V} {b : Bool} (h : LotAt H l xs b) : SqB b K H l xs := by
  rcases h with ⟨rfl, h⟩ | ⟨rfl, h⟩
  · exact SqL.of h
  · exact SqT.of h
theorem LotAt.len {K : PySem.W.Frag} {H : Hp} {l : Addr} {xs : List V} {b : Bool} (h : LotAt H l xs b) : LenV K (.ref l) H xs.length := by
  rcases h with ⟨rfl, h⟩ | ⟨rfl, h⟩
  · exact .inl ⟨_, SqL.of h, rfl⟩
  · exact .inr ⟨_, SqT.of h, rfl⟩
def spNeedMs (CM : Addr) : Sp := fun vs H Q _ => ∃ (l : Addr) (b : Bool) (os : List Addr) (ms : List Mis), vs = [.ref l] ∧ LotAt H l (os.map V.ref) b ∧ 1 ≤ os.length ∧ os.length ≤ 4 ∧ Paired (MisAt H CM) os ms ∧ ∀ (H' : Hp), Same H H' → Q .non H'
abbrev nNeedMs : List Str := ["values", "at", "value"]
theorem scNeedMs : FnScope nNeedMs ["values"] (C8.fnScope sNeedMis) := C8.fnScope_by (by decide +kernel)
theorem cal_need_mis {f CM : Addr} {fd : FuncData} (F : C8.Def K mg "need_misreadings" sNeedMis f fd) (df : fd.defaults = .none) (T : Txt K mg) (hmg : mg "Misreading" = some (.ref CM)) (ic : C8.InsC K CM) : C8.Cal P w K mg base 1 "need_misreadings" (spNeedMs CM) [] := by
  refine C8.cal0 F (F.fn.binds df (ps := ["values"]) fun _ _ _ _ _ _ us hl => match us, hl with | [_], _ => rfl) .nil scNeedMs (fun vs H Q E h => ?_) (fun cdv A outer s H vs Q E hr h => ?_)
  · obtain ⟨l, b, os, ms, rfl, _⟩ := h
    rfl
  · obtain ⟨l, b, os, ms, rfl, hl, l1, l4, pm, k⟩ := h
    refine ⟨_, pss_cons (ps_if (PW.pt (pw_or (pt_not (pt_val (pe_callB call_isiT (by rfl) T.isi (by decide +kernel) (pa_cons (pv 0) (pa_cons (pe_tup (pa_cons (pe_bltn (v := .ty "list") (by rfl) T.list (by decide +kernel) rfl) (pa_cons (pe_bltn (v := .ty "tuple") (by rfl) T.tuple (by decide +kernel) rfl) pa_nil))) pa_nil)))))
        (pw_or1 (pt_not (pt_chain op_le op_le pe_int (pe_callB call_len (by rfl) T.len PySem.boot_len (pa_cons (pv 0) pa_nil)) (C8.pe_gc (by rfl) T.mist)))))) pss_never pss_nil)
      (pss_one (ps_for PassesOwn.never rfl (pi_enumB (by rfl) T.enum (pa_cons (pv 0) pa_nil)) (pg_tup rfl (pgs_cons (pg_name (i := 1) scNeedMs.nd rfl (Or.inl rfl)) (pgs_cons (pg_name (i := 2) scNeedMs.nd rfl (Or.inl rfl)) pgs_nil)))
        (pss_one (ps_if (pt_not (pt_val (pe_callB (C8.call_isC ic) (by rfl) T.isi (by decide +kernel) (pa_cons (pv 2) (pa_cons (C8.pe_gc (v := .ref CM) (by rfl) ⟨_, hmg, rfl⟩) pa_nil))))) pss_never pss_nil)))), ?_⟩
    refine ⟨_, rfl, le_line (m := 2) (Nat.le_refl _), fun p hp => ?_⟩
    have hty : ∃ t, TyX K (upd H p (.tup [.ty "list", .ty "tuple"])) (.ref l) t ∧ PySem.W.kitAny K t [.type "list", .type "tuple"] = some true := by
      rcases hl with ⟨_, h⟩ | ⟨_, h⟩
      · exact ⟨.type "list", .base (.lst (by rw [upd_ne (ne_of_none h hp)]; exact h)), kitAny_cons (b := true) (kit_ty (by decide +kernel)) (fun z => nomatch z) fun _ => rfl⟩
      · exact ⟨.type "tuple", .base (.tup (by rw [upd_ne (ne_of_none h hp)]; exact h)), kitAny_cons (b := false) (kit_ty (by decide +kernel)) (fun _ => kitAny_cons (b := true) (kit_ty (by decide +kernel)) (fun z => nomatch z) fun _ => rfl) (fun z => nomatch z)⟩
    obtain ⟨t, ht1, ht2⟩ := hty
    have s1 : Same H (upd H p (.tup [.ty "list", .ty "tuple"])) := Same.new hp
    refine ⟨_, p, _, t, [.type "list", .type "tuple"], true, rfl, upd_same, .cons (.ty _) (.cons (.ty _) .nil), ht1, ht2, _, rfl, iteF ?_⟩
    have hl1 := hl.same s1
    refine ⟨_, rfl, _, (os.map V.ref).length, rfl, hl1.len, _, _, rfl, rfl, _, rfl, ?_⟩
    rw [List.length_map]
    have e1 : decide ((1 : Int) ≤ (os.length : Int)) = true := decide_eq_true (by omega)
    have e2 : decide ((os.length : Int) ≤ 4) = true := decide_eq_true (by omega)
    rw [e1]
    refine iteT ⟨_, _, rfl, rfl, _, rfl, ?_⟩
    rw [e2]
    refine iteF ?_
    refine ⟨_, rfl, b, l, os.map V.ref, rfl, hl1.sq, ?_⟩
    have hml := paired_len pm
    refine for_n (n := os.length) (fun i σ H2 => ∃ v1 v2, σ = [some (.ref l), v1, v2] ∧ Same H H2) ⟨_, _, rfl, s1⟩ (fun i σ H2 hi ⟨_, _, _, s2⟩ => ⟨(hl.same s2).sq, by rw [List.length_map]; exact hi⟩) (fun σ H2 ⟨_, _, _, s2⟩ => ⟨(hl.same s2).sq, by rw [List.length_map]; exact Nat.le_refl _⟩) ?_ ?_
    · rintro i σ H2 hi ⟨v1, v2, rfl, s2⟩ x H3 ⟨Tp, x', rfl, hTp, rfl, hx⟩
      obtain ⟨m, hm⟩ : ∃ m, ms[i]? = some m := ⟨_, List.getElem?_eq_getElem (by omega)⟩
      obtain ⟨o, ho, dx, d, fs, h1, h2, h3⟩ := paired_get pm hm
      have ex : x' = .ref o := by
        rw [List.getElem?_map, ho] at hx
        exact (Option.some.inj hx).symm
      subst ex
      have s3 := s2.trans (Same.new (o := .tup [.int (i : Nat), .ref o]) hTp)
      exact ⟨Tp, _, rfl, SqT.of upd_same, rfl, _, _, rfl, _, _, rfl, rfl, _, rfl, o, dx, fs, rfl, s3 _ _ h1, _, rfl, iteF ⟨_, _, rfl, s3⟩⟩
    · rintro σ H2 ⟨v1, v2, rfl, s2⟩
      exact k _ s2
end
end K57
end part_K57QC
section part_K57QD
set_option Elab.async false
set_option linter.all false
set_option maxRecDepth 100000
set_option maxHeartbeats 4000000
/-! data of rows and levels; Origin.__init__ -/
namespace K57
open PySem L2 Org
/-! ### data -/
def rowD (r : Row) : PyData := .tuple (r.map fun i : Nat => PyData.int (i : Int))
def txtD (s : Org.T) : PyData := .str (SX.S s)
def levD (L : Groups) : List PyData := L.map fun g => .tuple [rowD g.1, .list (g.2.map txtD)]
def outD (F : Found) : List PyData := F.map fun p => .tuple [rowD p.2, txtD p.1]
def Sign (s : Org.T) : Prop := ∀ c ∈ s, c < 1114112
theorem can_row (r : Row) : (rowD r).canLay0 = true := can_tup fun d hd => by
  obtain ⟨i, _, rfl⟩ := List.mem_map.mp hd
  simp [PyData.canLay0]
theorem depth_row (r : Row) : (rowD r).depth ≤ 1 := depth_tup (n := 0) fun d hd => by
  obtain ⟨i, _, rfl⟩ := List.mem_map.mp hd
  simp [PyData.depth]
theorem can_txt {s : Org.T} (h : Sign s) : (txtD s).canLay0 = true := by
  unfold txtD
  simp only [PyData.canLay0]
  show (Array.all (SX.S s).cps (· < 0x110000)) = true
  rw [← Array.all_toList]
  have e : (SX.S s).cps.toList = s := by simp [SX.S]
  rw [e, List.all_eq_true]
  exact fun c hc => decide_eq_true (h c hc)
theorem can_txts {l : List Org.T} (h : ∀ s ∈ l, Sign s) : PyData.canLay0 (.list (l.map txtD)) = true := by
  simp only [PyData.canLay0]
  exact can_all fun d hd => by
    obtain ⟨s, hs, rfl⟩ := List.mem_map.mp hd
    exact can_txt (h s hs)
theorem shaped_txts {l : List Org.T} (h : ∀ s ∈ l, Sign s) : SeqAt.shaped (.list (l.map txtD)) = true :=
  shaped_list (n := 0) (fun d hd => by
    obtain ⟨s, hs, rfl⟩ := List.mem_map.mp hd
    exact ⟨can_txt (h s hs), Nat.le_refl _⟩) (by decide)
theorem shaped_lev {L : Groups} (h : ∀ g ∈ L, ∀ s ∈ g.2, Sign s) : SeqAt.shaped (.list (levD L)) = true :=
  shaped_list (n := 2) (fun d hd => by
    obtain ⟨g, hg, rfl⟩ := List.mem_map.mp hd
    refine ⟨can_tup fun d hd => ?_, depth_tup (n := 1) fun d hd => ?_⟩
    · rcases List.mem_cons.mp hd with e | hd
      · rw [e]; exact can_row _
      · rw [List.mem_singleton.mp hd]; exact can_txts (h g hg)
    · rcases List.mem_cons.mp hd with e | hd
      · rw [e]; exact depth_row _
      · rw [List.mem_singleton.mp hd]
        simp only [PyData.depth]
        have : PyData.depthAll (g.2.map txtD) ≤ 0 := depth_all fun d hd => by
          obtain ⟨s, _, rfl⟩ := List.mem_map.mp hd
          exact Nat.le_refl _
        omega) (by decide)
theorem shaped_out {F : Found} (h : ∀ p ∈ F, Sign p.1) : SeqAt.shaped (.list (outD F)) = true :=
  shaped_list (n := 2) (fun d hd => by
    obtain ⟨g, hg, rfl⟩ := List.mem_map.mp hd
    refine ⟨can_tup fun d hd => ?_, depth_tup (n := 1) fun d hd => ?_⟩
    · rcases List.mem_cons.mp hd with e | hd
      · rw [e]; exact can_row _
      · rw [List.mem_singleton.mp hd]; exact can_txt (h g hg)
    · rcases List.mem_cons.mp hd with e | hd
      · rw [e]; exact depth_row _
      · rw [List.mem_singleton.mp hd]
        exact Nat.zero_le _) (by decide)
theorem eqv_empty (ds : List PyData) : (!PyData.eqv (.list ds) (.list [])) = decide (ds ≠ []) := by
  cases ds <;> simp [PyData.eqv, PyData.eqvAll]
section
variable {K : PySem.W.Frag} {H : Hp}
theorem dp_rowV : ∀ r : Row, DpAll K H (rowV r) (r.map fun i : Nat => PyData.int (i : Int))
  | [] => .nil
  | i :: r => .cons (.int _) (dp_rowV r)
theorem dp_row {b : Addr} {r : Row} (h : SqT K H b (rowV r)) : Dp K H (.ref b) (rowD r) := .tup h (dp_rowV r)
theorem dp_txts : ∀ l : List Org.T, DpAll K H (txts l) (l.map txtD)
  | [] => .nil
  | s :: l => .cons (.str _) (dp_txts l)
/-- a level in the heap -/
def GrpAt (K : PySem.W.Frag) (H : Hp) (a : Addr) (g : Row × List Org.T) : Prop := ∃ r x, SqT K H a [.ref r, .ref x] ∧ SqT K H r (rowV g.1) ∧ H x = some (.lst (txts g.2))
theorem dp_lev : ∀ {as : List Addr} {L : Groups}, Paired (GrpAt K H) as L → DpAll K H (as.map V.ref) (levD L)
  | _, _, .nil => .nil
  | _, _, .cons ⟨r, x, h1, h2, h3⟩ t => .cons (.tup h1 (.cons (dp_row h2) (.cons (.lst (SqL.of h3) (dp_txts _)) .nil))) (dp_lev t)
theorem dp_out : ∀ {qs : List Addr} {F : Found}, Paired (RowOut H) qs F → DpAll K H (qs.map V.ref) (outD F)
  | _, _, .nil => .nil
  | _, _, .cons ⟨b, h1, h2⟩ t => .cons (.tup (SqT.of h1) (.cons (dp_row (SqT.of h2)) (.cons (.str _) .nil))) (dp_out t)
end
/-! ### Origin.__init__ -/
section
variable {P : Program} {w : World} {K : PySem.W.Frag} {mg : Str → Option Value} {base : Heap}
def spOri (CO : Addr) : Sp := fun vs H Q _ => ∃ (a dx : Addr) (r x : V), vs = [.ref a, r, x] ∧ H a = some (.ins CO dx []) ∧ ∀ (H' : Hp), Keep a H H' → H' a = some (.ins CO dx [("row", r), ("text", x)]) → Q .non H'
abbrev nOri : List Str := ["self", "row", "text"]
theorem scOri : FnScope nOri ["self", "row", "text"] (C8.fnScope sOriI) := C8.fnScope_by (by decide +kernel)
theorem fn_ori {f CO : Addr} {fd : FuncData} (F : C8.Fun K "__init__" "Origin.__init__" sOriI f fd) (cl : Cls K CO) (n1 : NoAttr K CO "row") (n2 : NoAttr K CO "text") : FnOk P w K mg base C8.CX0 1 f fd ["self", "row", "text"] (spOri CO) := by
  refine C8.fn0 F scOri (fun vs H Q E h => ?_) (fun cdv A outer s H vs Q E hr h => ?_)
  · obtain ⟨a, dx, r, x, rfl, _⟩ := h
    rfl
  · obtain ⟨a, dx, r, x, rfl, ha, k⟩ := h
    refine ⟨_, pss_cons (ps_fld (pv 0) (pv 1) (by rfl)) (pss_one (ps_fld (pv 0) (pv 2) (by rfl))), ?_⟩
    exact ⟨_, rfl, _, rfl, a, CO, dx, [], rfl, ha, cl, n1, by decide, _, rfl, _, rfl, a, CO, dx, _, rfl, upd_same, cl, n2, (by show 1 < 1000; decide), k _ (Keep.put.trans Keep.put) upd_same⟩
theorem mak_ori {f CO : Addr} {fd : FuncData} (M : Mk K CO f) (hmg : mg "Origin" = some (.ref CO)) (F : C8.Fun K "__init__" "Origin.__init__" sOriI f fd) (df : fd.defaults = .none) (cl : Cls K CO) (n1 : NoAttr K CO "row") (n2 : NoAttr K CO "text") : C8.Mak P w K mg base 1 "Origin" CO (spOri CO) [] :=
  ⟨f, fd, ["self", "row", "text"], [], M, fn_ori F cl n1 n2, hmg, F.binds df fun _ _ _ _ _ _ us hl => match us, hl with | [_, _, _], _ => rfl, .nil⟩
theorem vapp : ∀ {vs zs : List V} {us ws : List Value}, Vals vs us → Vals zs ws → Vals (vs ++ zs) (us ++ ws)
  | _, _, _, _, .nil, h => h
  | _, _, _, _, .cons r t, h => .cons r (vapp t h)
theorem vrev : ∀ {zs : List V} {ws : List Value}, Vals zs ws → Vals zs.reverse ws.reverse
  | _, _, .nil => .nil
  | _, _, .cons r t => by
    rw [List.reverse_cons, List.reverse_cons]
    exact vapp (vrev t) (.cons r .nil)
/-- Origin(text = .., row = ..) -/
theorem kb_ori {f : Addr} {fd : FuncData} (F : C8.Fun K "__init__" "Origin.__init__" sOriI f fd) (df : fd.defaults = .none) : KBn K fd ["self", "row", "text"] 1 ["text", "row"] (fun us ws => us ++ ws.reverse) (fun vs zs => vs ++ zs.reverse) := by
  obtain ⟨oc, od, dV, kV, doc, pm, an, cdv, ct, osl, rfl, lk, hcd⟩ := F.ex
  have e : dV = .none := df
  subst e
  refine ⟨fun s us ws _ l1 l2 => ?_, fun r1 r2 => ?_⟩
  · match us, ws, l1, l2 with
    | [u], [t, r], _, _ => exact BindsTo.of_looks fun M => .of_pure rfl
  · exact vapp r1 (vrev r2)
end
end K57
end part_K57QD
section part_K57QF
set_option Elab.async false
set_option linter.all false
set_option maxRecDepth 100000
set_option maxHeartbeats 4000000
/-! origins_of: what stays, and what the levels keep -/
namespace K57
open PySem L2 Org
def GOk (n : Nat) (g : Row × List Org.T) : Prop := g.2 ≠ [] ∧ g.2.Nodup ∧ g.1.length ≤ n ∧ ∀ x ∈ g.2, x.length ≤ 100 ∧ ∀ c ∈ x, Low c
structure SOk (n : Nat) (F0 : Found) (S : Found × Groups) : Prop where
  grp : ∀ g ∈ S.2, GOk n g
  cnt : F0.length + S.2.length ≤ S.1.length
theorem SOk.step {n : Nat} {F0 : Found} {S : Found × Groups} (h : SOk n F0 S) {j : Job} (hj : j.1.length ≤ n) (g : Good j.2.1) (hk : ∀ q ∈ j.2.1, Low q.1) (nd : j.2.2.Nodup) (hl : ∀ x ∈ j.2.2, x.length ≤ 100) : SOk n F0 (stepJob S j) := by
  unfold stepJob
  by_cases e : ord (fresh S.1 j.2.1 j.2.2) = []
  · refine ⟨?_, ?_⟩
    · simp only [if_pos e]; exact h.grp
    · simp only [if_pos e]
      have := h.cnt
      rw [List.length_append]
      omega
  · refine ⟨?_, ?_⟩
    · simp only [if_neg e]
      intro q hq
      rcases List.mem_append.mp hq with hq | hq
      · exact h.grp q hq
      · rw [List.mem_singleton.mp hq]
        refine ⟨e, (ord_perm _).nodup_iff.mpr (fresh_nodup g nd), hj, fun x hx => ?_⟩
        have hx := (ord_perm _).mem_iff.mp hx
        obtain ⟨_, m, hm, hs⟩ := mem_fresh.mp hx
        obtain ⟨_, h2, h3⟩ := srcs_sound g hs
        refine ⟨Nat.le_trans h2 (hl m hm), fun c hc => ?_⟩
        obtain ⟨q, hq, rfl⟩ := List.mem_map.mp (h3 c hc)
        exact hk q hq
    · simp only [if_neg e]
      have := h.cnt
      have : 1 ≤ (ord (fresh S.1 j.2.1 j.2.2)).length := List.length_pos_iff.mpr e
      rw [List.length_append, List.length_append, List.length_map, List.length_singleton]
      omega
/-- all stays but d, la and the tables -/
def K2 (d la : Addr) (H H' : Hp) : Prop := ∀ b o, H b = some o → b ≠ d → b ≠ la → (∀ ps, o ≠ .tbl ps) → H' b = some o
theorem K2.refl (d la : Addr) (H : Hp) : K2 d la H H := fun _ _ h _ _ _ => h
theorem K2.trans {d la : Addr} {H H1 H2 : Hp} (a : K2 d la H H1) (b : K2 d la H1 H2) : K2 d la H H2 := fun c o h n1 n2 n3 => b c o (a c o h n1 n2 n3) n1 n2 n3
theorem K2.ext {d la : Addr} {H H' : Hp} (a : LamX.ExtN H H') : K2 d la H H' := fun c o h _ _ n3 => a c o h n3
theorem K2.same {d la : Addr} {H H' : Hp} (a : Same H H') : K2 d la H H' := fun c o h _ _ _ => a c o h
theorem K2.put1 {d la : Addr} {H : Hp} {o : HO} : K2 d la H (upd H d o) := fun c _ h n _ _ => by rw [upd_ne n]; exact h
theorem K2.put2 {d la : Addr} {H : Hp} {o : HO} : K2 d la H (upd H la o) := fun c _ h _ n _ => by rw [upd_ne n]; exact h
theorem K2.tup {d la b : Addr} {H H' : Hp} {xs ys : List V} {kvs : List (Key × V)} (k : K2 d la H H') (hd : H d = some (.dK kvs)) (hl : H la = some (.lst ys)) (h : H b = some (.tup xs)) : H' b = some (.tup xs) :=
  k b _ h (ne_of h hd (fun z => nomatch z)) (ne_of h hl (fun z => nomatch z)) (fun _ z => nomatch z)
/-- dicts of texts to rows, the rows in the heap -/
abbrev FDT (H : Hp) (kvs : List (Key × V)) (D : Found) : Prop := Paired (fun (kv : Key × V) (p : Org.T × Row) => kv.1 = (Sum.inr (SX.S p.1) : Key) ∧ ∃ b, kv.2 = .ref b ∧ H b = some (.tup (rowV p.2))) kvs D
theorem FDT.fd {K : PySem.W.Frag} {H : Hp} {kvs : List (Key × V)} {D : Found} (h : FDT H kvs D) : FD K H kvs D := Paired.mapP h fun kv p ⟨e, b, e2, q⟩ => ⟨e, b, e2, SqT.of q⟩
theorem FDT.keep {H H' : Hp} {kvs : List (Key × V)} {D : Found} (h : FDT H kvs D) (k : ∀ b xs, H b = some (.tup xs) → H' b = some (.tup xs)) : FDT H' kvs D := Paired.mapP h fun kv p ⟨e, b, e2, q⟩ => ⟨e, b, e2, k _ _ q⟩
theorem FDT.snoc {K : PySem.W.Frag} {H : Hp} {kvs : List (Key × V)} {D : Found} (h : FDT H kvs D) {x : Org.T} {r : Row} {b : Addr} (hx : has D x = false) (q : H b = some (.tup (rowV r))) : FDT H (putK kvs (Sum.inr (SX.S x) : Key) (.ref b)) (D ++ [(x, r)]) := by
  have hn : ¬ ((kvs.any fun kv => decide (kv.1 = (Sum.inr (SX.S x) : Key))) = true) := by
    rw [valV_any]
    rcases (FDT.fd (K := K) h).val x with ⟨_, e, _⟩ | ⟨_, _, _, _, _, e2⟩
    · rw [e]; simp
    · rw [hx] at e2; cases e2
  unfold putK
  rw [if_neg hn]
  exact paired_append h (.cons ⟨rfl, b, rfl, q⟩ .nil)
/-- a level, its rows in the heap -/
def GrpT (H : Hp) (a : Addr) (g : Row × List Org.T) : Prop := ∃ r x, H a = some (.tup [.ref r, .ref x]) ∧ H r = some (.tup (rowV g.1)) ∧ H x = some (.lst (txts g.2))
theorem GrpT.at_ {K : PySem.W.Frag} {H : Hp} {a : Addr} {g : Row × List Org.T} (h : GrpT H a g) : GrpAt K H a g := by
  obtain ⟨r, x, h1, h2, h3⟩ := h
  exact ⟨r, x, SqT.of h1, SqT.of h2, h3⟩
theorem txts_refs {l : List Org.T} {bs : List Addr} (h : l ≠ []) : txts l ≠ bs.map V.ref := by
  intro e
  cases l with
  | nil => exact h rfl
  | cons a r => cases bs with
    | nil => cases e
    | cons b q => cases e
/-- .. stays, though the list la of such grows -/
theorem GrpT.keep {d la a : Addr} {H H' : Hp} {g : Row × List Org.T} {kvs : List (Key × V)} {bs : List Addr} (h : GrpT H a g) (hg : g.2 ≠ []) (k : K2 d la H H') (hd : H d = some (.dK kvs)) (hl : H la = some (.lst (bs.map V.ref))) : GrpT H' a g := by
  obtain ⟨r, x, h1, h2, h3⟩ := h
  refine ⟨r, x, k.tup hd hl h1, k.tup hd hl h2, k x _ h3 (ne_of h3 hd (fun z => nomatch z)) (fun e => ?_) (fun _ z => nomatch z)⟩
  rw [e, hl] at h3
  exact txts_refs hg (HO.lst.inj (Option.some.inj h3)).symm
theorem paired_keep {α β : Type} {G G' : α → β → Prop} {xs : List α} {ys : List β} (h : Paired G xs ys) (f : ∀ a, ∀ b ∈ ys, G a b → G' a b) : Paired G' xs ys := by
  induction h with
  | nil => exact .nil
  | cons g t ih => exact .cons (f _ _ (by simp) g) (ih fun a b hb => f a b (List.mem_cons_of_mem _ hb))
theorem MisAt.ext {H H' : Hp} {CM r : Addr} {m : Mis} (h : MisAt H CM r m) (e : LamX.ExtN H H') : MisAt H' CM r m := by
  obtain ⟨dx, d, fs, h1, h2, h3⟩ := h
  exact ⟨dx, d, fs, e _ _ h1 (fun _ z => nomatch z), h2, e _ _ h3 (fun _ z => nomatch z)⟩
theorem LotAt.ext {H H' : Hp} {l : Addr} {xs : List V} {b : Bool} (h : LotAt H l xs b) (s : LamX.ExtN H H') : LotAt H' l xs b := by
  rcases h with ⟨e, h⟩ | ⟨e, h⟩
  · exact .inl ⟨e, s _ _ h (fun _ z => nomatch z)⟩
  · exact .inr ⟨e, s _ _ h (fun _ z => nomatch z)⟩
end K57
end part_K57QF
section part_K57QG
set_option Elab.async false
set_option linter.all false
set_option maxRecDepth 100000
set_option maxHeartbeats 4000000
/-! a level, job by job -/
namespace K57
open PySem L2 Org
def preJ (ms : List Mis) (L : Groups) (j i : Nat) (m : Mis) : List Job := ((num 0 ms).take j).flatMap (jobsOf L) ++ (L.take i).map fun g => (j :: g.1, m, g.2)
def preS (ms : List Mis) (F : Found) (L : Groups) (j i : Nat) (m : Mis) : Found × Groups := (preJ ms L j i m).foldl stepJob (F, [])
theorem preJ_zero (ms : List Mis) (L : Groups) (j : Nat) (m m' : Mis) : preJ ms L j 0 m = preJ ms L j 0 m' := by simp [preJ]
theorem preJ_succ {ms : List Mis} {L : Groups} {j i : Nat} {m : Mis} {g : Row × List Org.T} (h : L[i]? = some g) : preJ ms L j (i + 1) m = preJ ms L j i m ++ [(j :: g.1, m, g.2)] := by
  unfold preJ
  rw [List.take_add_one, h]
  simp
theorem preJ_end {ms : List Mis} {L : Groups} {j : Nat} {m m' : Mis} (h : ms[j]? = some m) : preJ ms L j L.length m = preJ ms L (j + 1) 0 m' := by
  unfold preJ
  rw [List.take_length, List.take_add_one, num_get ms 0 j m h]
  simp [jobsOf, List.flatMap_append]
theorem preJ_all (ms : List Mis) (L : Groups) (m : Mis) : preJ ms L ms.length 0 m = jobs ms L := by
  unfold preJ jobs
  rw [show (num 0 ms).take ms.length = num 0 ms by rw [← num_len ms 0, List.take_length]]
  simp
theorem preS_succ {ms : List Mis} {F : Found} {L : Groups} {j i : Nat} {m : Mis} {g : Row × List Org.T} (h : L[i]? = some g) : preS ms F L j (i + 1) m = stepJob (preS ms F L j i m) (j :: g.1, m, g.2) := by
  unfold preS
  rw [preJ_succ h, List.foldl_append]
  rfl
theorem preS_end {ms : List Mis} {F : Found} {L : Groups} {j : Nat} {m m' : Mis} (h : ms[j]? = some m) : preS ms F L j L.length m = preS ms F L (j + 1) 0 m' := by
  unfold preS
  rw [preJ_end h]
theorem preS_zero (ms : List Mis) (F : Found) (L : Groups) (j : Nat) (m m' : Mis) : preS ms F L j 0 m = preS ms F L j 0 m' := by
  unfold preS
  rw [preJ_zero ms L j m m']
theorem preS_first (ms : List Mis) (F : Found) (L : Groups) (m : Mis) : preS ms F L 0 0 m = (F, []) := by simp [preS, preJ]
theorem preS_all (ms : List Mis) (F : Found) (L : Groups) (m : Mis) : preS ms F L ms.length 0 m = levelP ms (F, L) := by
  unfold preS levelP
  rw [preJ_all]
theorem drop_cons {α : Type} {l : List α} {i : Nat} {a : α} (h : l[i]? = some a) : l = l.take i ++ a :: l.drop (i + 1) := by
  obtain ⟨hi, e⟩ := List.getElem?_eq_some_iff.mp h
  conv => lhs; rw [← List.take_append_drop i l, List.drop_eq_getElem_cons hi, e]
theorem pre_le {ms : List Mis} {F : Found} {L : Groups} {j i : Nat} {m : Mis} {g : Row × List Org.T} (hm : ms[j]? = some m) (hg : L[i]? = some g) {ts us : List Org.T} (e : g.2 = ts ++ us) :
    (preS ms F L j i m).1.length + (fresh (preS ms F L j i m).1 m ts).length ≤ (levelP ms (F, L)).1.length := by
  have hJ : jobs ms L = preJ ms L j i m ++ (j :: g.1, m, g.2) :: ((L.drop (i + 1)).map (fun g => (j :: g.1, m, g.2)) ++ ((num 0 ms).drop (j + 1)).flatMap (jobsOf L)) := by
    have h1 := num_get ms 0 j m hm
    rw [Nat.zero_add] at h1
    unfold jobs
    conv => lhs; rw [drop_cons h1]
    rw [List.flatMap_append, List.flatMap_cons]
    have h2 : jobsOf L (j, m) = (L.take i).map (fun g => (j :: g.1, m, g.2)) ++ (j :: g.1, m, g.2) :: (L.drop (i + 1)).map (fun g => (j :: g.1, m, g.2)) := by
      unfold jobsOf
      conv => lhs; rw [drop_cons hg]
      rw [List.map_append, List.map_cons]
    rw [h2]
    unfold preJ
    simp
  have := part_le (preJ ms L j i m) ((L.drop (i + 1)).map (fun g => (j :: g.1, m, g.2)) ++ ((num 0 ms).drop (j + 1)).flatMap (jobsOf L)) (F, []) (j :: g.1, m, g.2) ts us e
  unfold levelP preS
  rw [hJ]
  exact this
theorem run_none {ms : List Mis} {n : Nat} {F : Found} {L : Groups} (hL : L ≠ []) (h : 500 < (levelP ms (F, L)).1.length) : runP ms (n + 1) (F, L) = none := by
  unfold runP
  rw [if_neg hL, if_pos h]
theorem run_on {ms : List Mis} {n : Nat} {F : Found} {L : Groups} (hL : L ≠ []) (h : (levelP ms (F, L)).1.length ≤ 500) : runP ms (n + 1) (F, L) = runP ms n (levelP ms (F, L)) := by
  conv => lhs; unfold runP
  rw [if_neg hL, if_neg (by omega)]
theorem fresh_app (F : Found) (m : Mis) (a b : List Org.T) : fresh F m (a ++ b) = fresh F m a ++ fresh F m b := by simp [Org.fresh]
end K57
end part_K57QG
section part_K57QH
set_option Elab.async false
set_option linter.all false
set_option maxRecDepth 100000
set_option maxHeartbeats 4000000
/-! the state at a job -/
namespace K57
open PySem L2 Org
structure JSt (T : List (Addr × Str)) (H2 H' : Hp) (d la : Addr) (bs : List Addr) (kv : List (Key × V)) (n : Nat) (F : Found) (S : Found × Groups) : Prop where
  fnd : H' d = some (.dK kv)
  fdt : FDT H' kv S.1
  kp : K2 d la H2 H'
  tab : LamX.Tabs T H'
  lst : H' la = some (.lst (bs.map V.ref))
  grp : Paired (GrpT H') bs S.2
  ok : SOk n F S
  few : S.1.length ≤ 500
theorem JSt.ext {T : List (Addr × Str)} {H2 H' H'' : Hp} {d la : Addr} {bs : List Addr} {kv : List (Key × V)} {n : Nat} {F : Found} {S : Found × Groups} (h : JSt T H2 H' d la bs kv n F S) (e : LamX.ExtN H' H'') (t : LamX.Tabs T H'') : JSt T H2 H'' d la bs kv n F S where
  fnd := e _ _ h.fnd (fun _ z => nomatch z)
  fdt := FDT.keep h.fdt fun b xs q => e _ _ q (fun _ z => nomatch z)
  kp := h.kp.trans (K2.ext e)
  tab := t
  lst := e _ _ h.lst (fun _ z => nomatch z)
  grp := Paired.mapP h.grp fun a g ⟨r, x, h1, h2, h3⟩ => ⟨r, x, e _ _ h1 (fun _ z => nomatch z), e _ _ h2 (fun _ z => nomatch z), e _ _ h3 (fun _ z => nomatch z)⟩
  ok := h.ok
  few := h.few
theorem JSt.same {T : List (Addr × Str)} {H2 H' H'' : Hp} {d la : Addr} {bs : List Addr} {kv : List (Key × V)} {n : Nat} {F : Found} {S : Found × Groups} (h : JSt T H2 H' d la bs kv n F S) (e : Same H' H'') : JSt T H2 H'' d la bs kv n F S :=
  h.ext (LamX.ExtN.of e) (h.tab.ext e)
/-- one more in the dict -/
theorem JSt.put {K : PySem.W.Frag} {T : List (Addr × Str)} {H2 H' : Hp} {d la : Addr} {bs : List Addr} {kv : List (Key × V)} {n : Nat} {F : Found} {S : Found × Groups} (h : JSt T H2 H' d la bs kv n F S) {x : Org.T} {r : Row} {b : Addr}
    (hx : has S.1 x = false) (hb : H' b = some (.tup (rowV r))) (hl : S.1.length + 1 ≤ 500) (ht : LamX.Tabs T (upd H' d (.dK (putK kv (Sum.inr (SX.S x) : Key) (.ref b))))) :
    JSt T H2 (upd H' d (.dK (putK kv (Sum.inr (SX.S x) : Key) (.ref b)))) d la bs (putK kv (Sum.inr (SX.S x) : Key) (.ref b)) n F (S.1 ++ [(x, r)], S.2) where
  fnd := upd_same
  fdt := FDT.keep (FDT.snoc (K := K) h.fdt hx hb) fun b xs q => by rw [upd_ne (ne_of q h.fnd (fun z => nomatch z))]; exact q
  kp := h.kp.trans K2.put1
  tab := ht
  lst := by rw [upd_ne (ne_of h.lst h.fnd (fun z => nomatch z))]; exact h.lst
  grp := Paired.mapP h.grp fun a g ⟨r, x, h1, h2, h3⟩ => ⟨r, x, by rw [upd_ne (ne_of h1 h.fnd (fun z => nomatch z))]; exact h1, by rw [upd_ne (ne_of h2 h.fnd (fun z => nomatch z))]; exact h2, by rw [upd_ne (ne_of h3 h.fnd (fun z => nomatch z))]; exact h3⟩
  ok := ⟨h.ok.grp, by have := h.ok.cnt; simp only [List.length_append, List.length_singleton]; omega⟩
  few := by simp only [List.length_append, List.length_singleton]; exact hl
/-- one more group -/
theorem JSt.app {T : List (Addr × Str)} {H2 H' : Hp} {d la : Addr} {bs : List Addr} {kv : List (Key × V)} {n : Nat} {F : Found} {S : Found × Groups} (h : JSt T H2 H' d la bs kv n F S) {g : Row × List Org.T} {a : Addr}
    (hg : GrpT H' a g) (hgk : GOk n g) (hc : F.length + (S.2.length + 1) ≤ S.1.length) (ht : LamX.Tabs T (upd H' la (.lst (bs.map V.ref ++ [V.ref a])))) :
    JSt T H2 (upd H' la (.lst (bs.map V.ref ++ [V.ref a]))) d la (bs ++ [a]) kv n F (S.1, S.2 ++ [g]) := by
  have nt : ∀ {b : Addr} {xs : List V}, H' b = some (.tup xs) → b ≠ la := fun q => ne_of q h.lst (fun z => nomatch z)
  have keep : ∀ (a' : Addr) (g' : Row × List Org.T), g'.2 ≠ [] → GrpT H' a' g' → GrpT (upd H' la (.lst (bs.map V.ref ++ [V.ref a]))) a' g' := fun a' g' hne ⟨r, x, h1, h2, h3⟩ => by
    refine ⟨r, x, by rw [upd_ne (nt h1)]; exact h1, by rw [upd_ne (nt h2)]; exact h2, ?_⟩
    have : x ≠ la := fun e => by
      rw [e, h.lst] at h3
      exact txts_refs hne (HO.lst.inj (Option.some.inj h3)).symm
    rw [upd_ne this]; exact h3
  refine ⟨by rw [upd_ne (ne_of h.fnd h.lst (fun z => nomatch z))]; exact h.fnd, FDT.keep h.fdt fun b xs q => by rw [upd_ne (nt q)]; exact q, h.kp.trans K2.put2, ht, by rw [upd_same]; simp, ?_, ⟨fun q hq => ?_, by simp only [List.length_append, List.length_singleton]; exact hc⟩, h.few⟩
  · exact paired_append (paired_keep h.grp fun a' g' hm q => keep a' g' (h.ok.grp g' hm).1 q) (.cons (keep a g hgk.1 hg) .nil)
  · rcases List.mem_append.mp hq with hq | hq
    · exact h.ok.grp q hq
    · rw [List.mem_singleton.mp hq]; exact hgk
end K57
namespace K57
open PySem L2 Org
theorem tabs_put {T : List (Addr × Str)} {H : Hp} {d : Addr} {u v : HO} (t : LamX.Tabs T H) (hd : H d = some u) (h1 : ∀ ps, u ≠ .tbl ps) (h2 : ∀ c q, u ≠ LamX.CodeO c q) : LamX.Tabs T (upd H d v) := fun p hp => by
  obtain ⟨ps, h, tr, k⟩ := t p hp
  have n1 : p.1 ≠ d := fun e => by rw [e, hd] at h; exact h1 _ (Option.some.inj h)
  refine ⟨ps, by rw [upd_ne n1]; exact h, tr, fun pos cv hc => ?_⟩
  obtain ⟨c, e, hcc⟩ := k pos cv hc
  have n2 : c ≠ d := fun z => by rw [z, hd] at hcc; exact h2 _ _ (Option.some.inj hcc)
  exact ⟨c, e, by rw [upd_ne n2]; exact hcc⟩
theorem tabs_dK {T : List (Addr × Str)} {H : Hp} {d : Addr} {kv : List (Key × V)} {v : HO} (t : LamX.Tabs T H) (hd : H d = some (.dK kv)) : LamX.Tabs T (upd H d v) := tabs_put t hd (fun _ z => nomatch z) (fun _ _ z => nomatch z)
theorem tabs_lst {T : List (Addr × Str)} {H : Hp} {d : Addr} {kv : List V} {v : HO} (t : LamX.Tabs T H) (hd : H d = some (.lst kv)) : LamX.Tabs T (upd H d v) := tabs_put t hd (fun _ z => nomatch z) (fun _ _ z => nomatch z)
end K57
end part_K57QH
section part_K57QE
set_option Elab.async false
set_option linter.all false
set_option maxRecDepth 100000
set_option maxHeartbeats 4000000
/-! origins_of -/
namespace K57
open PySem L2 Org
section
variable {P : Program} {w : World} {K : PySem.W.Frag} {mg : Str → Option Value} {base : Heap}
/-- what the program's search asks of the tables -/
structure Lot (H : Hp) (CM : Addr) (os : List Addr) (ms : List Mis) : Prop where
  at_ : Paired (MisAt H CM) os ms
  good : ∀ m ∈ ms, Good m
  len : ∀ m ∈ ms, m.length ≤ 100
  imgs : ∀ m ∈ ms, ∀ q ∈ m, q.2.length ≤ 100
  keys : ∀ m ∈ ms, ∀ q ∈ m, Low q.1
  few : ms.length ≤ 4
def spOO (CM CO CT : Addr) (T : List (Addr × Str)) : Sp := fun vs H Q E => ∃ (l : Addr) (b : Bool) (os : List Addr) (ms : List Mis) (t : Org.T), vs = [.ref l, .str (SX.S t)] ∧ LotAt H l (os.map V.ref) b ∧ Lot H CM os ms ∧ t.length ≤ 100 ∧ (∀ c ∈ t, Low c) ∧ LamX.Tabs T H ∧
  (∀ dd H', origP ms t = none → LamX.ExtN H H' → LamX.Tabs T H' → H' dd = some (.xd [("most", .int 500), ("what", .str "texts")]) → E (.ref CT) (some dd) H') ∧
  ∀ F r rs H', origP ms t = some F → F.length ≤ 500 → LamX.ExtN H H' → LamX.Tabs T H' → H' r = some (.lst (rs.map V.ref)) → Paired (OriAt H' CO) rs F → Q (.ref r) H'
abbrev nOO : List Str := ["misreadings", "text", "found", "level", "level_ahead", "index", "misreading", "row", "texts", "fresh", "near", "one"]
theorem scOO : FnScope nOO ["misreadings", "text"] (C8.fnScope sOriginsOf) := C8.fnScope_by (by decide +kernel)
theorem fn_oo {f CM CO CT fI fO : Addr} {fd fdO : FuncData} {T : List (Addr × Str)} (F : C8.Def K mg "origins_of" sOriginsOf f fd) (Tx : Txt K mg) (c1 : C8.Cal P w K mg base 1 "texts_ahead" (spAhead CM) [])
    (TC : TooC P K mg CT fI) (FO : C8.Fun K "in_order" "in_order" sInOrder fO fdO) (mO : mg "in_order_origins" = some (.ref fO)) (kO : PySem.W.keepIn K (.ref fO) = true) (dO : fdO.defaults = .none) (TO : TabOf base mg fdO ("in_order.<locals>.<lambda>") T)
    (cO : C8.Mak P w K mg base 1 "Origin" CO (spOri CO) []) : FnOk P w K mg base (L2.CX P w) 5 f fd ["misreadings", "text"] (spOO CM CO CT T) := by
  obtain ⟨fdI, dI, ⟨ocI, odI, oslI, lkI⟩, bI, FI⟩ := fn_tooI (P := P) (w := w) (base := base) TC
  obtain ⟨oc, od0, dV, kVx, doc, pm, an, cdv, ct, osl, rfl, lk, hcd⟩ := F.fn.ex
  refine fn_of lk hcd scOO (fun vs H Q E h => ?_) fun A outer s H vs Q E hr h => ?_
  · obtain ⟨l, b, os, ms, t, rfl, _⟩ := h
    rfl
  · obtain ⟨l, b, os, ms, t, rfl, hl, lot, htl, htw, hT, kE, kS⟩ := h
    have hu := hu_of hr
    have pw := passes_of (X := cxOf (L2.CX P w) P w K mg base nOO "origins_of" (C8.fnScope sOriginsOf) f cdv A outer s H E) rfl
    have tk := takes_of (X := cxOf (L2.CX P w) P w K mg base nOO "origins_of" (C8.fnScope sOriginsOf) f cdv A outer s H E) (E := E) rfl rfl rfl rfl
    refine ⟨_, pss_cons (ps_set (i := 2) scOO.nd rfl (Or.inr rfl) (pe_disp (pps_cons (pv 1) (pe_tup pa_nil) pps_nil) rfl rfl (by simp) (by simp)))
      (pss_cons (ps_set (i := 3) scOO.nd rfl (Or.inl rfl) (pe_lst (pa_cons (pe_tup (pa_cons (pe_tup pa_nil) (pa_cons (pe_lst (pa_cons (pv 1) pa_nil)) pa_nil))) pa_nil)))
      (C8.pss_cut (ps_while pw (pt_cmpR (op_neD hr.units) (pv 3) (pe_lst pa_nil) (nomark _))
        (pss_cons (ps_set (i := 4) scOO.nd rfl (Or.inl rfl) (pe_lst pa_nil))
        (C8.pss_cut (ps_for pw rfl (pi_enumB (by rfl) Tx.enum (pa_cons (pv 0) pa_nil)) (pg_tup rfl (pgs_cons (pg_name (i := 5) scOO.nd rfl (Or.inl rfl)) (pgs_cons (pg_name (i := 6) scOO.nd rfl (Or.inl rfl)) pgs_nil)))
          (pss_one (ps_for pw rfl (pi_list (pv 3)) (pg_tup rfl (pgs_cons (pg_name (i := 7) scOO.nd rfl (Or.inl rfl)) (pgs_cons (pg_name (i := 8) scOO.nd rfl (Or.inl rfl)) pgs_nil)))
            (pss_cons (ps_set (i := 9) scOO.nd rfl (Or.inl rfl) (pe_lst pa_nil))
            (C8.pss_cut (ps_for pw rfl (pi_list (pv 8)) (pg_name (i := 10) scOO.nd rfl (Or.inl rfl))
              (pss_cons (ps_expr (pe_bm PySem.F.plainAttrs_list PySem.F.slot_list_extend PySem.F.type_list_extend mt_extend (pv 9) (pa_cons
                  (pe_lc (own := [("one", 11)]) (g := gName 11) rfl scOO.nd (pi_list (C8.pe_c c1 hr (by decide) (by rfl) (pa_cons (pv 6) (pa_cons (pv 10) pa_nil)))) (blkOk_by (N := nOO) (sc := C8.fnScope sOriginsOf) (by decide +kernel))
                    (fun _ _ _ _ _ => pg_name (i := 11) scOO.nd rfl (Or.inl rfl)) (fun _ _ _ _ _ => pts_one (pt_cmp (pc_dnotin hu (pv 11) (pv 2)) (by rfl))) (fun _ _ _ _ _ => pv 11)) pa_nil)))
              (pss_one (ps_if (pt_cmpR op_gt (pe_op op_add (pe_callB call_lenD (by rfl) Tx.len PySem.boot_len (pa_cons (pv 2) pa_nil)) (pe_callB call_len_seq (by rfl) Tx.len PySem.boot_len (pa_cons (pv 9) pa_nil))) (C8.pe_gc (by rfl) Tx.texts) (nomark _))
                (pss_one (ps_raise rfl tk (pmk_oex TC.ox TC.iC TC.tI FI hr bI .nil C8.pass0 (by rfl) TC.gC (pa_cons pe_str (pa_cons (C8.pe_gc (by rfl) Tx.texts) pa_nil))))) pss_nil))))
            (pss_cons (ps_set (i := 9) scOO.nd rfl (Or.inl rfl) (pe_call (E := C8.E0) (fn_in_order FO Tx TO) (hr.mono (by decide)) (by rfl) mO kO (FO.binds dO (ps := ["texts"]) fun _ _ _ _ _ _ us hl => match us, hl with | [_], _ => rfl) .nil C8.pass0 (pa_cons (pv 9) pa_nil)))
            (C8.pss_cut (ps_for pw rfl (pi_list (pv 9)) (pg_name (i := 11) scOO.nd rfl (Or.inl rfl))
              (pss_one (ps_dput hu (pv 2) (pv 11) (pe_tup (pa_cons (pv 5) (StX.pa_star (pv 7) pa_nil))) rfl)))
            (pss_one (ps_if (pt_cmpR (op_neD hr.units) (pv 9) (pe_lst pa_nil) (nomark _))
              (pss_one (ps_expr (pe_bm PySem.F.plainAttrs_list PySem.F.slot_list_append PySem.F.type_list_append mt_append (pv 4) (pa_cons (pe_tup (pa_cons (pe_tup (pa_cons (pv 5) (StX.pa_star (pv 7) pa_nil))) (pa_cons (pv 9) pa_nil))) pa_nil)))) pss_nil)))))))))
        (pss_one (ps_set (i := 3) scOO.nd rfl (Or.inl rfl) (pe_callTy call_list_of (by rfl) Tx.list (by decide +kernel) (pa_cons (pv 4) pa_nil)))))))
      (pss_one (ps_ret (pe_lock (pe_lc (own := [("one", 11), ("row", 7)]) (g := gTup K 2 (gCons (gName 11) (gCons (gName 7) gNil))) (tt := tYes) rfl scOO.nd (pi_items (pv 2)) (blkOk_by (N := nOO) (sc := C8.fnScope sOriginsOf) (by decide +kernel))
          (fun _ _ _ _ _ => pg_tup rfl (pgs_cons (pg_name (i := 11) scOO.nd rfl (Or.inl rfl)) (pgs_cons (pg_name (i := 7) scOO.nd rfl (Or.inl rfl)) pgs_nil))) (fun _ _ _ _ _ => pts_nil) (fun _ _ _ _ _ => C8.pe_mk cO hr (by decide) (by rfl) (pa_cons (pv 7) (pa_cons (pv 11) pa_nil))))))))), ?_⟩
    intro d1 hd1
    refine ⟨_, rfl, Nat.zero_le _, fun b0 hb0 => ⟨by rw [upd_ne (ne_of_none upd_same hb0), upd_same], [((Sum.inr (SX.S t) : Key), .ref b0)], rfl, by simp, ?_⟩⟩
    have n0d : b0 ≠ d1 := fun e => by rw [e, upd_same] at hb0; cases hb0
    have hb0' : H b0 = none := by rwa [upd_ne n0d] at hb0
    obtain ⟨Ha, hHa⟩ : ∃ Ha, Ha = upd (upd (upd H d1 (.dK [])) b0 (.tup [])) d1 (.dK (mergeK [] [((Sum.inr (SX.S t) : Key), V.ref b0)])) := ⟨_, rfl⟩
    rw [← hHa]
    have hda : Ha d1 = some (.dK [((Sum.inr (SX.S t) : Key), V.ref b0)]) := by rw [hHa, upd_same]; rfl
    have hba : Ha b0 = some (.tup (rowV [])) := by rw [hHa, upd_ne n0d, upd_same]; rfl
    have sa : Same H Ha := fun b o e => by
      rw [hHa, upd_ne (ne_of_none e hd1), upd_ne (ne_of_none e hb0'), upd_ne (ne_of_none e hd1)]; exact e
    refine ⟨Nat.zero_le _, fun e1 he1 => ⟨_, rfl, le_line (m := 1) (Nat.le_refl _), fun e2 he2 => ⟨le_line (m := 2) (Nat.le_refl _), fun e3 he3 => ⟨le_line (m := 1) (Nat.le_refl _), fun e4 he4 => ?_⟩⟩⟩⟩
    obtain ⟨Hb, hHb⟩ : ∃ Hb, Hb = upd (upd (upd (upd Ha e1 (.tup [])) e2 (.lst [.str (SX.S t)])) e3 (.tup [.ref e1, .ref e2])) e4 (.lst [.ref e3]) := ⟨_, rfl⟩
    have q12 : Same Ha Hb := by rw [hHb]; exact (((Same.new he1).trans (Same.new he2)).trans (Same.new he3)).trans (Same.new he4)
    have h4b : Hb e4 = some (.lst [.ref e3]) := by rw [hHb]; exact upd_same
    have h3b : Hb e3 = some (.tup [.ref e1, .ref e2]) := by rw [hHb]; exact Same.new he4 _ _ upd_same
    have h2b : Hb e2 = some (.lst (txts [t])) := by rw [hHb]; exact ((Same.new he3).trans (Same.new he4)) _ _ upd_same
    have h1b : Hb e1 = some (.tup (rowV [])) := by rw [hHb]; exact ((Same.new he2).trans ((Same.new he3).trans (Same.new he4))) _ _ upd_same
    have sb : Same H Hb := sa.trans q12
    have hml : ms.length = os.length := (paired_len lot.at_).symm
    refine ⟨fun σ H' => ∃ (lv : Addr) (kv : List (Key × V)) (F : Found) (v4 v5 v6 v7 v8 v9 v10 v11 : Option V), σ = [some (.ref l), some (.str (SX.S t)), some (.ref d1), some (.ref lv), v4, v5, v6, v7, v8, v9, v10, v11] ∧
        H' d1 = some (.dK kv) ∧ FDT H' kv F ∧ LamX.ExtN H H' ∧ LamX.Tabs T H' ∧ origP ms t = some F ∧ F.length ≤ 500, ?_, ?_⟩
    · show tWhile _ _ _ _ _
      rw [← hHb]
      refine ⟨fun n σ H' => ∃ (lv : Addr) (as : List Addr) (L : Groups) (kv : List (Key × V)) (F : Found) (v4 v5 v6 v7 v8 v9 v10 v11 : Option V), σ = [some (.ref l), some (.str (SX.S t)), some (.ref d1), some (.ref lv), v4, v5, v6, v7, v8, v9, v10, v11] ∧
          H' d1 = some (.dK kv) ∧ FDT H' kv F ∧ LamX.ExtN H H' ∧ LamX.Tabs T H' ∧ H' lv = some (.lst (as.map V.ref)) ∧ Paired (GrpT H') as L ∧ (∀ g ∈ L, GOk (500 - n) g) ∧ n ≤ 500 ∧ F.length ≤ 500 ∧ L.length ≤ 500 ∧ (L ≠ [] → 501 ≤ F.length + n) ∧ runP ms n (F, L) = origP ms t,
        ⟨500, e4, [e3], [([], [t])], _, [(t, [])], _, _, _, _, _, _, _, _, rfl, q12 _ _ hda, .cons ⟨rfl, b0, rfl, q12 _ _ hba⟩ .nil, LamX.ExtN.of sb, hT.ext sb, h4b, .cons ⟨e1, e2, h3b, h1b, h2b⟩ .nil, ?_, Nat.le_refl _, (by show 1 ≤ 500; decide), (by show 1 ≤ 500; decide), fun _ => (by show 501 ≤ 1 + 500; decide), rfl⟩, ?_⟩
      · intro g hg
        rw [List.mem_singleton.mp hg]
        exact ⟨by simp, by simp, Nat.zero_le _, fun x hx => by rw [List.mem_singleton.mp hx]; exact ⟨htl, htw⟩⟩
      rintro n σ H1 ⟨lv, as, L, kv, F, v4, v5, v6, v7, v8, v9, v10, v11, rfl, hd, fd, ext, tabs, hlv, grp, gok, hn, hF5, hL5, hfuel, hrun⟩
      refine ⟨_, rfl, Nat.zero_le _, fun z hz => ?_⟩
      have sz : Same H1 (upd H1 z (.lst [])) := Same.new hz
      refine ⟨.list (levD L), .list [], .lst (SqL.of (sz _ _ hlv)) (dp_lev (Paired.mapP grp fun a g h => ?_)), .lst (SqL.of upd_same) .nil, shaped_lev fun g hg x hx c hc => ?_, shaped_list (n := 0) (fun d hd => by cases hd) (by decide), _, rfl, ?_⟩
      · obtain ⟨r, x, h1, h2, h3⟩ := h
        exact ⟨r, x, SqT.of (sz _ _ h1), SqT.of (sz _ _ h2), sz _ _ h3⟩
      · have := ((gok g hg).2.2.2 x hx).2 c hc
        have := this.2
        omega
      rw [eqv_empty]
      refine ite2 (fun hne => ?_) (fun he => ?_)
      · have hLne : L ≠ [] := fun e => of_decide_eq_true hne (by rw [e]; rfl)
        obtain ⟨n', rfl⟩ : ∃ n', n = n' + 1 := ⟨n - 1, by have := hfuel hLne; omega⟩
        have hfu := hfuel hLne
        refine ⟨_, fun σ' H' h => ⟨n', Nat.lt_succ_self _, h⟩, ?_⟩
        refine ⟨Nat.zero_le _, fun la hla => ?_⟩
        obtain ⟨H2, hH2⟩ : ∃ H2, H2 = upd (upd H1 z (.lst [])) la (.lst []) := ⟨_, rfl⟩
        have s12 : Same H1 H2 := by rw [hH2]; exact sz.trans (Same.new hla)
        have hla1 : H1 la = none := sz.free hla
        have hla2 : H2 la = some (.lst []) := by rw [hH2]; exact upd_same
        have hmsne : ∃ m0, m0 ∈ ms ∨ ms = [] := by
          cases ms with
          | nil => exact ⟨[], .inr rfl⟩
          | cons a r => exact ⟨a, .inl (by simp)⟩
        obtain ⟨m0, _⟩ := hmsne
        have grp2 : Paired (GrpT H2) as L := Paired.mapP grp fun a g ⟨r, x, h1, h2, h3⟩ => ⟨r, x, s12 _ _ h1, s12 _ _ h2, s12 _ _ h3⟩
        have hlv2 := s12 _ _ hlv
        have hd2 := s12 _ _ hd
        have ndla : d1 ≠ la := ne_of_none hd hla1
        have nlvla : lv ≠ la := ne_of_none hlv hla1
        have nlvd : lv ≠ d1 := ne_of hlv hd (fun z => nomatch z)
        have back : ∀ {H' : Hp}, K2 d1 la H2 H' → LamX.ExtN H H' := fun k b o e nt => by
          have e1 := ext b o e nt
          exact k b o (s12 _ _ e1) (ne_of_none e hd1) (ne_of_none e1 hla1) nt
        have hlvk : ∀ {H' : Hp}, K2 d1 la H2 H' → H' lv = some (.lst (as.map V.ref)) := fun k => k _ _ hlv2 nlvd nlvla (fun _ z => nomatch z)
        have grpk : ∀ {H' : Hp}, K2 d1 la H2 H' → Paired (GrpT H') as L := fun k => paired_keep grp2 fun a g hg h => h.keep (gok g hg).1 k hd2 (bs := []) hla2
        have hmsl := lot.few
        have hasl : as.length = L.length := paired_len grp
        refine ⟨fun σ H' => ∃ (bs : List Addr) (kv' : List (Key × V)) (v5 v6 v7 v8 v9 v10 v11 : Option V), σ = [some (.ref l), some (.str (SX.S t)), some (.ref d1), some (.ref lv), some (.ref la), v5, v6, v7, v8, v9, v10, v11] ∧ JSt T H2 H' d1 la bs kv' (500 - n') F (levelP ms (F, L)), ?_, ?_⟩
        · refine ⟨_, rfl, b, l, os.map V.ref, rfl, ?_, ?_⟩
          · rw [← hH2]; exact (hl.ext (back (K2.refl _ _ _))).sq
          rw [← hH2]
          refine for_n (n := ms.length) (fun j σ H' => ∃ (bs : List Addr) (kv' : List (Key × V)) (v5 v6 v7 v8 v9 v10 v11 : Option V), σ = [some (.ref l), some (.str (SX.S t)), some (.ref d1), some (.ref lv), some (.ref la), v5, v6, v7, v8, v9, v10, v11] ∧ JSt T H2 H' d1 la bs kv' (500 - n') F (preS ms F L j 0 m0))
            ⟨[], kv, v5, v6, v7, v8, v9, v10, v11, rfl, ?_⟩ (fun j σ H' hj ⟨_, _, _, _, _, _, _, _, _, _, J⟩ => ⟨(hl.ext (back J.kp)).sq, by rw [List.length_map, ← hml]; exact hj⟩) (fun σ H' ⟨_, _, _, _, _, _, _, _, _, _, J⟩ => ⟨(hl.ext (back J.kp)).sq, by rw [List.length_map, ← hml]; exact Nat.le_refl _⟩) ?_ ?_
          · rw [preS_first]
            exact ⟨hd2, FDT.keep fd fun b xs q => s12 _ _ q, K2.refl _ _ _, tabs.ext s12, hla2, .nil, ⟨fun g hg => (by cases hg), Nat.le_refl _⟩, hF5⟩
          · rintro j σ H3 hj ⟨bs, kv3, v5, v6, v7, v8, v9, v10, v11, rfl, J3⟩ x H4 ⟨Tp, x', rfl, hTp, rfl, hx⟩
            obtain ⟨m, hm⟩ : ∃ m, ms[j]? = some m := ⟨_, List.getElem?_eq_getElem hj⟩
            have hmm : m ∈ ms := List.mem_of_getElem? hm
            obtain ⟨o, ho, hmis⟩ := paired_get lot.at_ hm
            have ex : x' = .ref o := by
              rw [List.getElem?_map, ho] at hx
              exact (Option.some.inj hx).symm
            subst ex
            have s34 : Same H3 (upd H3 Tp (.tup [.int (j : Nat), .ref o])) := Same.new hTp
            obtain ⟨H4, hH4⟩ : ∃ H4, H4 = upd H3 Tp (.tup [.int (j : Nat), .ref o]) := ⟨_, rfl⟩
            rw [← hH4] at s34 ⊢
            have J4 := J3.same s34
            refine ⟨Tp, _, rfl, SqT.of (by rw [hH4]; exact upd_same), rfl, _, _, rfl, _, _, rfl, rfl, ?_⟩
            refine ⟨_, rfl, lv, rfl, ⟨_, SqL.of (hlvk J4.kp)⟩, ?_⟩
            refine for_n (n := L.length) (fun i σ H' => ∃ (bs : List Addr) (kv' : List (Key × V)) (v7 v8 v9 v10 v11 : Option V), σ = [some (.ref l), some (.str (SX.S t)), some (.ref d1), some (.ref lv), some (.ref la), some (.int (j : Nat)), some (.ref o), v7, v8, v9, v10, v11] ∧ JSt T H2 H' d1 la bs kv' (500 - n') F (preS ms F L j i m))
              ⟨bs, kv3, v7, v8, v9, v10, v11, rfl, by rw [preS_zero ms F L j m m0]; exact J4⟩ (fun i σ H' hi ⟨_, _, _, _, _, _, _, _, J⟩ => ?_) (fun σ H' ⟨_, _, _, _, _, _, _, _, J⟩ => ⟨_, SqL.of (hlvk J.kp), by rw [List.length_map, hasl]; exact Nat.le_refl _⟩) ?_ ?_
            · have hi' : i < as.length := by rw [hasl]; exact hi
              exact ⟨_, .ref as[i], SqL.of (hlvk J.kp), by simp [hi']⟩
            · rintro i σ H5 hi ⟨bs, kv5, v7, v8, v9, v10, v11, rfl, J5⟩ x H6 ⟨rfl, hx⟩
              have hx := hx _ (SqL.of (hlvk J5.kp))
              obtain ⟨g, hg⟩ : ∃ g, L[i]? = some g := ⟨_, List.getElem?_eq_getElem hi⟩
              have hgm : g ∈ L := List.mem_of_getElem? hg
              obtain ⟨a, ha, r, xl, hga, hgr, hgx⟩ := paired_get (grpk J5.kp) hg
              have ex : x = .ref a := by
                rw [List.getElem?_map, ha] at hx
                exact (Option.some.inj hx).symm
              subst ex
              have gk := gok g hgm
              obtain ⟨S, hS⟩ : ∃ S, S = preS ms F L j i m := ⟨_, rfl⟩
              have hSn : preS ms F L j (i + 1) m = stepJob S (j :: g.1, m, g.2) := by rw [hS]; exact preS_succ hg
              rw [← hS] at J5
              rw [hSn]
              refine ⟨a, _, rfl, SqT.of hga, rfl, _, _, rfl, _, _, rfl, rfl, ?_⟩
              refine ⟨Nat.zero_le _, fun fr hfr => ?_⟩
              obtain ⟨H7, hH7⟩ : ∃ H7, H7 = upd H6 fr (.lst []) := ⟨_, rfl⟩
              have s67 : Same H6 H7 := by rw [hH7]; exact Same.new hfr
              have hfr7 : H7 fr = some (.lst []) := by rw [hH7]; exact upd_same
              refine ⟨fun σ H' => ∃ (v10 v11 : Option V), σ = [some (.ref l), some (.str (SX.S t)), some (.ref d1), some (.ref lv), some (.ref la), some (.int (j : Nat)), some (.ref o), some (.ref r), some (.ref xl), some (.ref fr), v10, v11] ∧ Same H6 H' ∧ H' fr = some (.lst (txts (Org.fresh S.1 m g.2))) ∧ S.1.length + (Org.fresh S.1 m g.2).length ≤ 500, ?_, ?_⟩
              · refine ⟨_, rfl, xl, rfl, ⟨txts g.2, SqL.of (by rw [← hH7]; exact s67 _ _ hgx)⟩, ?_⟩
                rw [← hH7]
                refine for_n (n := g.2.length) (fun k σ H' => ∃ (v10 v11 : Option V), σ = [some (.ref l), some (.str (SX.S t)), some (.ref d1), some (.ref lv), some (.ref la), some (.int (j : Nat)), some (.ref o), some (.ref r), some (.ref xl), some (.ref fr), v10, v11] ∧ Same H6 H' ∧ H' fr = some (.lst (txts (Org.fresh S.1 m (g.2.take k)))) ∧ S.1.length + (Org.fresh S.1 m (g.2.take k)).length ≤ 500)
                  ⟨v10, v11, rfl, s67, hfr7, J5.few⟩ (fun k σ H' hk ⟨_, _, _, s', _⟩ => ⟨_, .str (SX.S (g.2[k])), SqL.of (s' _ _ hgx), by simp [txts, hk]⟩) (fun σ H' ⟨_, _, _, s', _⟩ => ⟨_, SqL.of (s' _ _ hgx), by rw [txts_len]; exact Nat.le_refl _⟩) ?_ ?_
                · rintro k σ H8 hk ⟨v10, v11, rfl, s8, hfr8, hle8⟩ x H9 ⟨rfl, hx⟩
                  have hx := hx _ (SqL.of (s8 _ _ hgx))
                  obtain ⟨near, hnear⟩ : ∃ near, g.2[k]? = some near := ⟨_, List.getElem?_eq_getElem hk⟩
                  have ex : x = .str (SX.S near) := by
                    have : (txts g.2)[k]? = some (.str (SX.S near)) := by simp [txts, hnear]
                    exact Option.some.inj (hx.symm.trans this)
                  subst ex
                  have hnm : near ∈ g.2 := List.mem_of_getElem? hnear
                  have J9 := J5.same s8
                  refine ⟨_, rfl, tyL hfr8, _, rfl, _, rfl, o, m, near, rfl, hmis.ext (back J9.kp), lot.good m hmm, lot.len m hmm, lot.imgs m hmm, (gk.2.2.2 near hnm).1, fun H10 ra s10 hra => ⟨ra, rfl, ⟨_, SqL.of hra⟩, ?_⟩⟩
                  have J10 := J9.same s10
                  intro D hD
                  have hndD : d1 ≠ D := ne_of_none J10.fnd hD
                  refine lc_n (n := (srcs m near).length) (fun q H11 => Same H10 H11 ∧ H11 D = some (.lst (txts (((srcs m near).take q).filter fun x => !has S.1 x)))) ⟨Same.new hD, by rw [upd_same]; rfl⟩ (fun q H11 hq ⟨s11, _⟩ => ⟨_, .str (SX.S ((srcs m near)[q])), SqL.of (s11 _ _ hra), by simp [txts, hq]⟩) (fun H11 ⟨s11, _⟩ => ⟨_, SqL.of (s11 _ _ hra), by rw [txts_len]; exact Nat.le_refl _⟩) ?_ ?_
                  · rintro q H11 hq ⟨s11, h11⟩ x H12 ⟨rfl, hx⟩
                    have hx := hx _ (SqL.of (s11 _ _ hra))
                    obtain ⟨one, hone⟩ : ∃ one, (srcs m near)[q]? = some one := ⟨_, List.getElem?_eq_getElem hq⟩
                    have ex : x = .str (SX.S one) := by
                      have : (txts (srcs m near))[q]? = some (.str (SX.S one)) := by simp [txts, hone]
                      exact Option.some.inj (hx.symm.trans this)
                    subst ex
                    have hval := (FDT.fd (K := K) J10.fdt).val one
                    refine ⟨rfl, _, rfl, _, rfl, d1, _, rfl, DGet.k (k := (Sum.inr (SX.S one) : Key)) (s11 _ _ J10.fnd), _, rfl, ?_⟩
                    have eh : (!(valV kv5 (Sum.inr (SX.S one) : Key)).isSome) = !has S.1 one := by
                      rcases hval with ⟨_, e, e2⟩ | ⟨_, _, _, e, _, e2⟩ <;> rw [e, e2] <;> rfl
                    rw [eh]
                    have etake : ((srcs m near).take (q + 1)).filter (fun x => !has S.1 x) = ((srcs m near).take q).filter (fun x => !has S.1 x) ++ (if (!has S.1 one) = true then [one] else []) := by
                      rw [List.take_add_one, hone, List.filter_append]
                      congr 1
                      show List.filter _ [one] = _
                      rw [List.filter_cons, List.filter_nil]
                    refine ite2 (fun c => ?_) (fun c => ?_)
                    · refine ⟨_, rfl, _, h11, ?_, fun b' u e => ?_, ?_⟩
                      · rw [txts_len]
                        have h1 := List.length_filter_le (fun x => !has S.1 x) ((srcs m near).take q)
                        have h2 := srcs_len m near
                        have h3 : ((srcs m near).take q).length ≤ (srcs m near).length := by rw [List.length_take]; exact Nat.min_le_right _ _
                        exact lt_line (m := 501) (by omega)
                      · rw [upd_ne (ne_of_none e hD)]; exact s11 _ _ e
                      · rw [upd_same, etake, if_pos c, txts_app]; rfl
                    · exact ⟨s11, by rw [etake, if_neg c, List.append_nil]; exact h11⟩
                  · rintro H11 ⟨s11, h11⟩
                    rw [List.take_length] at h11
                    have sfr : Same H9 H11 := s10.trans s11
                    have hfr11 := sfr _ _ hfr8
                    have hone5 : (freshOne S.1 m near).length ≤ 501 := by
                      have h1 := List.length_filter_le (fun x => !has S.1 x) (srcs m near)
                      have h2 := srcs_len m near
                      unfold freshOne
                      omega
                    have hfn : Org.fresh S.1 m (g.2.take (k + 1)) = Org.fresh S.1 m (g.2.take k) ++ freshOne S.1 m near := by
                      rw [List.take_add_one, hnear]
                      show Org.fresh S.1 m (g.2.take k ++ [near]) = _
                      rw [fresh_app]
                      congr 1
                      simp [Org.fresh]
                    refine ⟨fr, D, _, _, rfl, rfl, hfr11, h11, by rw [txts_len, txts_len]; unfold freshOne at hone5; exact le_line (m := 1100) (by omega), ?_⟩
                    obtain ⟨H12, hH12⟩ : ∃ H12, H12 = upd H11 fr (.lst (txts (Org.fresh S.1 m (g.2.take k)) ++ txts ((srcs m near).filter fun x => !has S.1 x))) := ⟨_, rfl⟩
                    have hfr12 : H12 fr = some (.lst (txts (Org.fresh S.1 m (g.2.take (k + 1))))) := by rw [hH12, upd_same, hfn, txts_app]; rfl
                    have s12b : Same H6 H12 := fun b' u e => by
                      rw [hH12, upd_ne (ne_of_none e hfr)]
                      exact sfr _ _ (s8 _ _ e)
                    rw [← hH12]
                    have J12 := J5.same s12b
                    refine ⟨_, rfl, d1, kv5, rfl, J12.fnd, _, rfl, fr, _, rfl, .inl (SqL.of hfr12), _, _, rfl, rfl, _, _, rfl, rfl, _, rfl, ?_⟩
                    rw [txts_len, paired_len J12.fdt]
                    refine ite2 (fun c => ?_) (fun c => ?_)
                    · have c := of_decide_eq_true c
                      have hbig : 500 < (levelP ms (F, L)).1.length := by
                        have := pre_le (F := F) (L := L) hm hg (ts := g.2.take (k + 1)) (us := g.2.drop (k + 1)) (by rw [List.take_append_drop])
                        rw [← hS] at this
                        omega
                      have hno : origP ms t = none := by rw [← hrun]; exact run_none hLne hbig
                      refine ⟨by decide, fun ae hae => ⟨ae, _, _, rfl, upd_same, fun dx H' hdx ndx eH' => ⟨rfl, dx, [("most", V.int 500), ("what", V.str "texts")], ?_, ?_, ?_, ?_⟩⟩⟩
                      · rw [eH', upd_ne (Ne.symm ndx), upd_same]
                      · rw [eH', upd_same]
                      · rwa [upd_ne ndx] at hdx
                      · have hdx12 : H12 dx = none := by rwa [upd_ne ndx] at hdx
                        have sE : Same H12 (upd (del H' ae) dx (.xd [("most", .int 500), ("what", .str "texts")])) := fun b' u e => by
                          have e1 := ne_of_none e hae
                          have e2 := ne_of_none e hdx12
                          rw [upd_ne e2, del_ne e1, eH', upd_ne e2, upd_ne e1, upd_ne e2, upd_ne e1]; exact e
                        exact kE dx _ hno ((back J12.kp).trans (LamX.ExtN.of sE)) (J12.tab.ext sE) upd_same
                    · have c : ¬ (((S.1.length : Nat) : Int) + ((Org.fresh S.1 m (g.2.take (k + 1))).length : Nat) > 500) := fun q => c (decide_eq_true q)
                      exact ⟨_, _, rfl, s12b, hfr12, by omega⟩
                · rintro σ H8 ⟨v10, v11, rfl, s8, hfr8, hle8⟩
                  rw [List.take_length] at hfr8 hle8
                  exact ⟨v10, v11, rfl, s8, hfr8, hle8⟩
              · rintro σ H8 ⟨v10, v11, rfl, s8, hfr8, hle8⟩
                have J8 := J5.same s8
                have hfrl : ∀ x ∈ Org.fresh S.1 m g.2, x.length ≤ 100 ∧ (∀ c ∈ x, Low c) ∧ has S.1 x = false := fun x hx => by
                  obtain ⟨h1, n0, hn0, hs0⟩ := mem_fresh.mp hx
                  obtain ⟨_, h2, h3⟩ := srcs_sound (lot.good m hmm) hs0
                  refine ⟨Nat.le_trans h2 (gk.2.2.2 n0 hn0).1, fun c hc => ?_, h1⟩
                  obtain ⟨q, hq, rfl⟩ := List.mem_map.mp (h3 c hc)
                  exact lot.keys m hmm q hq
                have hond : (Org.fresh S.1 m g.2).Nodup := fresh_nodup (lot.good m hmm) gk.2.1
                refine ⟨_, rfl, fr, Org.fresh S.1 m g.2, rfl, hfr8, by omega, fun x hx => (hfrl x hx).1, J8.tab, fun H9 fr2 e9 t9 hfr2 => ?_⟩
                have J9 := J8.ext e9 t9
                have hr9 : H9 r = some (.tup (rowV g.1)) := e9 _ _ (s8 _ _ hgr) (fun _ z => nomatch z)
                obtain ⟨O, hO⟩ : ∃ O, O = ord (Org.fresh S.1 m g.2) := ⟨_, rfl⟩
                have hOm : ∀ x ∈ O, x.length ≤ 100 ∧ (∀ c ∈ x, Low c) ∧ has S.1 x = false := fun x hx => hfrl x ((ord_perm _).mem_iff.mp (by rw [hO] at hx; exact hx))
                have hOn : O.Nodup := by rw [hO]; exact (ord_perm _).nodup_iff.mpr hond
                have hOl : O.length = (Org.fresh S.1 m g.2).length := by rw [hO]; exact (ord_perm _).length_eq
                rw [← hO] at hfr2
                have hjl : (j :: g.1).length ≤ 500 - n' := by
                  have := gk.2.2.1
                  rw [List.length_cons]; omega
                have hstep : stepJob S (j :: g.1, m, g.2) = (S.1 ++ O.map (fun x => (x, j :: g.1)), if O = [] then S.2 else S.2 ++ [(j :: g.1, O)]) := by
                  unfold stepJob
                  rw [← hO]
                refine ⟨fun σ H' => ∃ (kv' : List (Key × V)) (v11 : Option V), σ = [some (.ref l), some (.str (SX.S t)), some (.ref d1), some (.ref lv), some (.ref la), some (.int (j : Nat)), some (.ref o), some (.ref r), some (.ref xl), some (.ref fr2), v10, v11] ∧
                    JSt T H2 H' d1 la bs kv' (500 - n') F (S.1 ++ O.map (fun x => (x, j :: g.1)), S.2) ∧ H' fr2 = some (.lst (txts O)) ∧ H' r = some (.tup (rowV g.1)), ?_, ?_⟩
                · refine ⟨_, rfl, fr2, rfl, ⟨_, SqL.of hfr2⟩, ?_⟩
                  refine for_n (n := O.length) (fun k σ H' => ∃ (kv' : List (Key × V)) (v11 : Option V), σ = [some (.ref l), some (.str (SX.S t)), some (.ref d1), some (.ref lv), some (.ref la), some (.int (j : Nat)), some (.ref o), some (.ref r), some (.ref xl), some (.ref fr2), v10, v11] ∧
                      JSt T H2 H' d1 la bs kv' (500 - n') F (S.1 ++ (O.take k).map (fun x => (x, j :: g.1)), S.2) ∧ H' fr2 = some (.lst (txts O)) ∧ H' r = some (.tup (rowV g.1)))
                    ⟨kv5, v11, rfl, by rw [List.take_zero, List.map_nil, List.append_nil]; exact J9, hfr2, hr9⟩ (fun k σ H' hk ⟨_, _, _, _, h1, _⟩ => ⟨_, .str (SX.S (O[k])), SqL.of h1, by simp [txts, hk]⟩) (fun σ H' ⟨_, _, _, _, h1, _⟩ => ⟨_, SqL.of h1, by rw [txts_len]; exact Nat.le_refl _⟩) ?_ ?_
                  · rintro k σ H10 hk ⟨kv10, v11, rfl, J10, hf10, hr10⟩ x H11 ⟨rfl, hx⟩
                    have hx := hx _ (SqL.of hf10)
                    obtain ⟨one, hone⟩ : ∃ one, O[k]? = some one := ⟨_, List.getElem?_eq_getElem hk⟩
                    have ex : x = .str (SX.S one) := by
                      have : (txts O)[k]? = some (.str (SX.S one)) := by simp [txts, hone]
                      exact Option.some.inj (hx.symm.trans this)
                    subst ex
                    have hkl := paired_len J10.fdt
                    have hkf := J10.few
                    refine ⟨_, rfl, _, rfl, r, rowV g.1, rfl, .inl (SqT.of hr10), ?_, fun q hq => ⟨_, rfl, _, rfl, d1, _, rfl, DPut.k (k := (Sum.inr (SX.S one) : Key)) (Same.new hq _ _ J10.fnd) (by rw [hkl]; exact lt_line (m := 500) hkf), ?_⟩⟩
                    · rw [List.append_nil, List.length_cons, rowV_len]
                      have := gk.2.2.1
                      exact le_line (m := 501) (by omega)
                    have sq := Same.new (H := H11) (o := .tup (V.int (j : Nat) :: (rowV g.1 ++ []))) hq
                    have J11 := J10.same sq
                    have hb11 : upd H11 q (.tup (V.int (j : Nat) :: (rowV g.1 ++ []))) q = some (.tup (rowV (j :: g.1))) := by rw [upd_same, List.append_nil]; rfl
                    have hnot : has (S.1 ++ (O.take k).map (fun x => (x, j :: g.1))) one = false := by
                      rw [has_append, (hOm one (List.mem_of_getElem? hone)).2.2, Bool.false_or]
                      have : one ∉ O.take k := fun hin => by
                        have h2 : (O.take (k + 1)).Nodup := hOn.sublist (List.take_sublist _ _)
                        rw [List.take_add_one, hone, List.nodup_append] at h2
                        exact h2.2.2 one hin one (by simp) rfl
                      unfold has
                      rw [List.map_map]
                      have e2 : ((fun p : Org.T × Row => p.1) ∘ fun x => (x, j :: g.1)) = id := rfl
                      rw [e2, List.map_id]
                      simpa using this
                    have hlen1 : (S.1 ++ (O.take k).map (fun x => (x, j :: g.1))).length + 1 ≤ 500 := by
                      rw [List.length_append, List.length_map, List.length_take]; omega
                    have etk : S.1 ++ (O.take (k + 1)).map (fun x => (x, j :: g.1)) = (S.1 ++ (O.take k).map (fun x => (x, j :: g.1))) ++ [(one, j :: g.1)] := by
                      rw [List.take_add_one, hone, List.map_append, List.append_assoc]; rfl
                    refine ⟨putK kv10 (Sum.inr (SX.S one) : Key) (.ref q), _, rfl, ?_, ?_, ?_⟩
                    · rw [etk]
                      exact J11.put (K := K) hnot hb11 hlen1 (tabs_dK J11.tab J11.fnd)
                    · rw [upd_ne (ne_of (sq _ _ hf10) J11.fnd (fun z => nomatch z))]; exact sq _ _ hf10
                    · rw [upd_ne (ne_of (sq _ _ hr10) J11.fnd (fun z => nomatch z))]; exact sq _ _ hr10
                  · rintro σ H10 ⟨kv10, v11, rfl, J10, hf10, hr10⟩
                    rw [List.take_length] at J10
                    exact ⟨kv10, v11, rfl, J10, hf10, hr10⟩
                · rintro σ H10 ⟨kv10, v11, rfl, J10, hf10, hr10⟩
                  refine ⟨_, rfl, Nat.zero_le _, fun z hz => ?_⟩
                  have sz := Same.new (H := H10) (o := .lst []) hz
                  have J11 := J10.same sz
                  refine ⟨.list (O.map txtD), .list [], .lst (SqL.of (sz _ _ hf10)) (dp_txts O), .lst (SqL.of upd_same) .nil, shaped_txts fun x hx c hc => ?_, shaped_list (n := 0) (fun d hd => by cases hd) (by decide), _, rfl, ?_⟩
                  · have := (hOm x hx).2.1 c hc
                    have := this.2
                    omega
                  rw [eqv_empty]
                  refine ite2 (fun hne => ?_) (fun he => ?_)
                  · have hOe : O ≠ [] := fun e => of_decide_eq_true hne (by rw [e]; rfl)
                    have hgl := gk.2.2.1
                    obtain ⟨H12, hH12⟩ : ∃ H12, H12 = upd H10 z (.lst []) := ⟨_, rfl⟩
                    rw [← hH12] at sz J11 ⊢
                    have hr12 := sz _ _ hr10
                    have hf12 := sz _ _ hf10
                    have hbl : bs.length = S.2.length := paired_len J10.grp
                    have hcn := J10.ok.cnt
                    have hfw := J10.few
                    refine ⟨_, rfl, tyL J11.lst, _, rfl, _, rfl, r, rowV g.1, rfl, .inl (SqT.of hr12), ?_, fun p1 hp1 => ⟨_, rfl, le_line (m := 2) (Nat.le_refl _), fun p2 hp2 => ⟨la, bs.map V.ref, _, rfl, rfl, ?_, ?_, ?_⟩⟩⟩
                    · rw [List.append_nil, List.length_cons, rowV_len]; exact le_line (m := 501) (by omega)
                    · exact Same.new hp2 _ _ (Same.new hp1 _ _ J11.lst)
                    · rw [List.length_map, hbl]; exact lt_line (m := 500) (by have h1 : F.length + S.2.length ≤ _ := hcn; have h2 : (S.1 ++ O.map (fun x => (x, j :: g.1))).length ≤ 500 := hfw; omega)
                    · have sp := (Same.new (o := .tup (V.int (j : Nat) :: (rowV g.1 ++ []))) hp1).trans (Same.new (o := .tup [.ref p1, .ref fr2]) hp2)
                      have J13 := J11.same sp
                      have hgrp : GrpT (upd (upd H12 p1 (.tup (V.int (j : Nat) :: (rowV g.1 ++ [])))) p2 (.tup [.ref p1, .ref fr2])) p2 (j :: g.1, O) := by
                        refine ⟨p1, fr2, upd_same, ?_, sp _ _ hf12⟩
                        rw [Same.new hp2 _ _ upd_same, List.append_nil]; rfl
                      have hgok : GOk (500 - n') (j :: g.1, O) := ⟨hOe, hOn, hjl, fun x hx => ⟨(hOm x hx).1, (hOm x hx).2.1⟩⟩
                      have hOp : 1 ≤ O.length := List.length_pos_iff.mpr hOe
                      have J14 := J13.app hgrp hgok (by
                        have := J5.ok.cnt
                        simp only [List.length_append, List.length_map]; omega) (tabs_lst J13.tab J13.lst)
                      rw [hstep, if_neg hOe]
                      exact ⟨_, _, _, _, _, _, _, rfl, J14⟩
                  · have hOe : O = [] := by
                      have : ¬ (O.map txtD ≠ []) := fun hh => he (decide_eq_true hh)
                      cases O with
                      | nil => rfl
                      | cons a b => exact absurd (by simp) this
                    rw [hstep, if_pos hOe]
                    exact ⟨_, _, _, _, _, _, _, rfl, J11⟩
            · rintro σ H5 ⟨bs, kv5, v7, v8, v9, v10, v11, rfl, J5⟩
              exact ⟨bs, kv5, _, _, v7, v8, v9, v10, v11, rfl, by rw [← preS_end (m' := m0) hm]; exact J5⟩
          · rintro σ H3 ⟨bs, kv3, v5, v6, v7, v8, v9, v10, v11, rfl, J3⟩
            rw [preS_all] at J3
            exact ⟨bs, kv3, v5, v6, v7, v8, v9, v10, v11, rfl, J3⟩
        · rintro σ H3 ⟨bs, kv3, v5, v6, v7, v8, v9, v10, v11, rfl, J3⟩
          refine ⟨_, rfl, la, _, rfl, .inl (SqL.of J3.lst), fun lv' hlv' => ?_⟩
          have s3 : Same H3 (upd H3 lv' (.lst (bs.map V.ref))) := Same.new hlv'
          have J5 := J3.same s3
          have hcnt := J3.ok.cnt
          have hfew := J3.few
          refine ⟨lv', bs, (levelP ms (F, L)).2, kv3, (levelP ms (F, L)).1, _, v5, v6, v7, v8, v9, v10, v11, rfl, J5.fnd, J5.fdt, back J5.kp, J5.tab, upd_same, J5.grp, J5.ok.grp, by omega, hfew, by omega, fun hne2 => ?_, ?_⟩
          · have : 1 ≤ (levelP ms (F, L)).2.length := List.length_pos_iff.mpr hne2
            omega
          · rw [← hrun, run_on hLne hfew]
      · have hL : L = [] := by
          have : ¬ (levD L ≠ []) := fun hh => he (decide_eq_true hh)
          cases L with
          | nil => rfl
          | cons a b => exact absurd (by simp [levD]) this
        subst hL
        have ho : origP ms t = some F := by
          rw [← hrun]
          cases n <;> simp [runP]
        exact ⟨lv, kv, F, v4, v5, v6, v7, v8, v9, v10, v11, rfl, sz _ _ hd, FDT.keep fd fun b xs h => sz _ _ h, ext.trans (LamX.ExtN.of sz), tabs.ext sz, ho, hF5⟩
    · rintro σ H1 ⟨lv, kv, F, v4, v5, v6, v7, v8, v9, v10, v11, rfl, hd, fd, ext, tabs, ho, hF5⟩
      refine ⟨d1, _, hd, trivial, fun od => ⟨_, rfl, d1, od, kv, rfl, upd_same, ?_⟩⟩
      have hkl : kv.length = F.length := paired_len fd
      intro D hD
      have ndD : d1 ≠ D := ne_of_none (upd_same (H := H1)) hD
      have hD1 : H1 D = none := by rwa [upd_ne ndD.symm] at hD
      refine lc_n (n := F.length) (fun i H7 => Same (upd H1 d1 (.frz od (.dK kv))) H7 ∧ ∃ rs : List Addr, H7 D = some (.lst (rs.map V.ref)) ∧ Paired (OriAt H7 CO) rs (F.take i)) ⟨Same.new hD, [], by rw [upd_same]; rfl, .nil⟩ (fun i H7 hi ⟨s7, _⟩ => ⟨s7 _ _ upd_same, by rw [hkl]; exact hi⟩) (fun H7 ⟨s7, _⟩ => ⟨s7 _ _ upd_same, by rw [hkl]; exact Nat.le_refl _⟩) ?_ ?_
      · rintro i H7 hi ⟨s7, rs, h7, pr⟩ x H8 ⟨Tp, key, v, hkv, rfl, hTp, rfl⟩
        obtain ⟨p, hp⟩ : ∃ p, F[i]? = some p := ⟨_, List.getElem?_eq_getElem hi⟩
        obtain ⟨kv', hkv', ek, bb, ev, hbb⟩ := paired_get fd hp
        have e2 : kv' = (key, v) := Option.some.inj (hkv'.symm.trans hkv)
        subst e2
        have ek : key = (Sum.inr (SX.S p.1) : Key) := ek
        have ev : v = .ref bb := ev
        subst ek ev
        have s8 : Same H7 (upd H7 Tp (.tup [kV (Sum.inr (SX.S p.1) : Key), .ref bb])) := Same.new hTp
        obtain ⟨H8, hH8⟩ : ∃ H8, H8 = upd H7 Tp (.tup [kV (Sum.inr (SX.S p.1) : Key), .ref bb]) := ⟨_, rfl⟩
        rw [← hH8] at s8 ⊢
        refine ⟨Tp, _, rfl, SqT.of (by rw [hH8]; exact upd_same), rfl, _, _, rfl, _, _, rfl, rfl, rfl, _, rfl, _, rfl, fun o dx ho hdx ndo => ?_⟩
        have s9 : Same H8 (upd (upd H8 dx (.own o)) o (.ins CO dx [])) := fun b u e => by
          rw [upd_ne (ne_of_none e ho), upd_ne (ne_of_none e hdx)]; exact e
        refine ⟨o, dx, .ref bb, .str (SX.S p.1), rfl, upd_same, fun H' kp ho' => ⟨rfl, rs.map V.ref, ?_⟩⟩
        have s9' : Same H8 H' := fun b u e => kp b u (s9 b u e) (ne_of_none e ho)
        have s7' : Same H7 H' := s8.trans s9'
        have noD : o ≠ D := fun e => by rw [e, s8 _ _ h7] at ho; cases ho
        have nD : ∀ {z : Addr} {u : HO}, H' z = some u → (∀ ys, u ≠ .lst ys) → z ≠ D := fun h n e => by
          rw [e, s7' _ _ h7] at h
          exact n _ (Option.some.inj h).symm
        have keep : ∀ (z : Addr) (q : Org.T × Row), OriAt H' CO z q → OriAt (upd H' D (.lst (rs.map V.ref ++ [V.ref o]))) CO z q := fun z q ⟨dx', b', fs, g1, g2, g3, g4⟩ =>
          ⟨dx', b', fs, by rw [upd_ne (nD g1 fun _ z => nomatch z)]; exact g1, g2, g3, by rw [upd_ne (nD g4 fun _ z => nomatch z)]; exact g4⟩
        have hbb1 : H1 bb = some (.tup (rowV p.2)) := hbb
        have nbd : bb ≠ d1 := ne_of hbb1 hd (fun z => nomatch z)
        refine ⟨s7' _ _ h7, ?_, fun b u e => ?_, rs ++ [o], ?_, ?_⟩
        · rw [List.length_map, paired_len pr, List.length_take]; exact lt_line (m := 500) (by omega)
        · rw [upd_ne (ne_of_none e hD)]; exact s7' _ _ (s7 _ _ e)
        · rw [upd_same]; simp
        · rw [List.take_add_one, hp]
          refine paired_append (Paired.mapP pr fun z q ⟨dx', b', fs, g1, g2, g3, g4⟩ => keep z q ⟨dx', b', fs, s7' _ _ g1, g2, g3, s7' _ _ g4⟩) (.cons (keep o p ⟨dx, bb, _, ho', rfl, rfl, ?_⟩) .nil)
          exact s7' _ _ (s7 _ _ (by rw [upd_ne nbd]; exact hbb1))
      · rintro H7 ⟨s7, rs, h7, pr⟩
        rw [List.take_length] at pr
        have hd7 : H7 d1 = some (.frz od (.dK kv)) := s7 _ _ upd_same
        have sU : Same H1 (upd H7 d1 (.dK kv)) := same_unlock hd s7
        refine ⟨hd7, kS F D rs _ ho hF5 (ext.trans (LamX.ExtN.of sU)) (tabs.ext sU) (by rw [upd_ne ndD.symm]; exact h7) (Paired.mapP pr fun z q ⟨dx', b', fs, g1, g2, g3, g4⟩ => ⟨dx', b', fs, ?_, g2, g3, ?_⟩)⟩
        · rw [upd_ne (ne_of g1 hd7 (fun z => nomatch z))]; exact g1
        · rw [upd_ne (ne_of g4 hd7 (fun z => nomatch z))]; exact g4
end
end K57
end part_K57QE
section part_K57QI
set_option Elab.async false
set_option linter.all false
set_option maxRecDepth 100000
set_option maxHeartbeats 4000000
/-! origins, the generator -/
namespace K57
open PySem L2 Org
section
variable {P : Program} {w : World} {K : PySem.W.Frag} {mg : Str → Option Value} {base : Heap}
def spOG (CM CO CT : Addr) (T : List (Addr × Str)) : SpG := fun vs H Q E => ∃ (l : Addr) (b : Bool) (os : List Addr) (ms : List Mis) (t : Org.T), vs = [.ref l, .str (SX.S t)] ∧ LotAt H l (os.map V.ref) b ∧ Lot H CM os ms ∧ 1 ≤ os.length ∧ os.length ≤ 4 ∧ t.length ≤ 100 ∧ (∀ c ∈ t, Low c) ∧ LamX.Tabs T H ∧
  (∀ dd H', origP ms t = none → LamX.ExtN H H' → LamX.Tabs T H' → H' dd = some (.xd [("most", .int 500), ("what", .str "texts")]) → E (.ref CT) (some dd) H') ∧
  ∀ F rs H', origP ms t = some F → F.length ≤ 500 → LamX.ExtN H H' → LamX.Tabs T H' → Paired (OriAt H' CO) rs F → Q (rs.map V.ref) H'
abbrev nOG : List Str := ["misreadings", "text", "found", "one"]
theorem scOG : GScope nOG ["misreadings", "text"] (C8.fnScope sOrigins) := ⟨rfl, rfl, rfl, by decide, rfl, by decide +kernel, by decide +kernel⟩
theorem gfn_og {f CM CO CT fO : Addr} {fd fdO : FuncData} {T : List (Addr × Str)} (F : C8.Def K mg "origins" sOrigins f fd) (Tx : Txt K mg) (c1 : C8.Cal P w K mg base 1 "need_misreadings" (spNeedMs CM) []) (c2 : C8.Cal P w K mg base 2 "need_text" spNeedText [])
    (FO : FnOk P w K mg base (L2.CX P w) 5 fO fdO ["misreadings", "text"] (spOO CM CO CT T)) (mO : mg "origins_of" = some (.ref fO)) (kO : PySem.W.keepIn K (.ref fO) = true) (bO : L2.Binds K fdO ["misreadings", "text"] []) :
    GFn P w K mg base 6 f fd ["misreadings", "text"] (spOG CM CO CT T) := by
  obtain ⟨oc, od0, dV, kVx, doc, pm, an, cdv, ct, osl, rfl, lk, hcd⟩ := F.fn.ex
  refine gfn_of lk hcd scOG (fun vs H Q E h => ?_) fun A outer s H vs Q E pn hr h => ?_
  · obtain ⟨l, b, os, ms, t, rfl, _⟩ := h
    rfl
  · obtain ⟨l, b, os, ms, t, rfl, hl, lot, l1, l4, htl, htw, hT, kE, kS⟩ := h
    have tk := takes_gcx (P := P) (w := w) (K := K) (mg := mg) (base := base) (N := nOG) (qual := "origins") (scope := C8.fnScope sOrigins) (f := f) (cd := cdv) (A := A) (outer := outer) (s := s) (H := H) (E := E) (pn := pn)
    refine ⟨_, gss_cons (gs_ps (ps_expr (C8.pe_c c1 hr (by decide) (by rfl) (pa_cons (pv 0) pa_nil))))
      (gss_cons (gs_ps (ps_expr (C8.pe_c c2 hr (by decide) (by rfl) (pa_cons (pv 1) pa_nil))))
      (gss_cons (gs_ps (ps_set (i := 2) scOG.nd rfl (Or.inl rfl) (pe_call (E := E) FO hr (by rfl) mO kO bO .nil (passes_call tk fun _ _ _ _ h => h) (pa_cons (pv 0) (pa_cons (pv 1) pa_nil)))))
      (gss_cons (gs_for owns_gcx rfl (pi_list (pv 2)) (pg_name (i := 3) scOG.nd rfl (Or.inl rfl)) (gss_cons (gs_yield (pv 3)) gss_nil)) gss_nil))), ?_⟩
    refine ⟨_, rfl, l, b, os, ms, rfl, hl, l1, l4, lot.at_, fun H1 s1 => ?_⟩
    refine ⟨_, rfl, t, rfl, by omega, htw, ?_⟩
    have lot1 : Lot H1 CM os ms := ⟨Paired.mapP lot.at_ fun a m h => h.same s1, lot.good, lot.len, lot.imgs, lot.keys, lot.few⟩
    refine ⟨_, rfl, _, rfl, l, b, os, ms, t, rfl, hl.same s1, lot1, htl, htw, hT.ext s1, fun dd H' ho e tb hx => kE dd H' ho ((LamX.ExtN.of s1).trans e) tb hx, fun F r rs H5 ho hF e tb hr5 pr => ?_⟩
    have hrl : rs.length = F.length := paired_len pr
    refine ⟨_, rfl, r, rfl, ⟨_, SqL.of hr5⟩, ?_⟩
    refine ⟨fun i n ys σ H' => (n = F.length - i ∧ i ≤ F.length) ∧ ys = (rs.map V.ref).take i ∧ ∃ v3, σ = [some (.ref l), some (.str (SX.S t)), some (.ref r), v3] ∧ H' = H5, ⟨F.length, ⟨rfl, Nat.zero_le _⟩, rfl, none, rfl, rfl⟩, ?_⟩
    rintro i n ys σ H' ⟨⟨hn, hi⟩, rfl, v3, rfl, rfl⟩
    rcases Nat.lt_or_ge i F.length with hlt | hge
    · have hi' : i < rs.length := by rw [hrl]; exact hlt
      refine .inr ⟨⟨_, .ref rs[i], SqL.of hr5, by simp [hi']⟩, fun ys' σ' H2 => ys' = (rs.map V.ref).take (i + 1) ∧ ∃ v3, σ' = [some (.ref l), some (.str (SX.S t)), some (.ref r), v3] ∧ H2 = H', fun ys' σ' H2 h => ⟨F.length - (i + 1), by omega, ⟨rfl, hlt⟩, h⟩, ?_⟩
      rintro x H2 ⟨rfl, hx⟩
      have hx := hx _ (SqL.of hr5)
      have ex : x = .ref rs[i] := by
        have : (rs.map V.ref)[i]? = some (.ref rs[i]) := by simp [hi']
        exact Option.some.inj (hx.symm.trans this)
      subst ex
      refine ⟨?_, _, rfl, ?_, _, rfl, rfl⟩
      · rw [List.length_take, List.length_map]; exact lt_line (m := 500) (by omega)
      · rw [List.take_add_one, hx]; rfl
    · refine .inl ⟨⟨_, SqL.of hr5, by rw [List.length_map, hrl]; exact hge⟩, ?_⟩
      have e2 : (rs.map V.ref).take i = rs.map V.ref := List.take_of_length_le (by rw [List.length_map, hrl]; exact hge)
      show Q ((rs.map V.ref).take i) H'
      rw [e2]
      exact kS F rs H' ho hF ((LamX.ExtN.of s1).trans e) tb pr
end
end K57
end part_K57QI
section part_K57QJ
set_option Elab.async false
set_option linter.all false
set_option maxRecDepth 100000
set_option maxHeartbeats 4000000
/-! ==, != of instances with their own ==, any answer -/
namespace K57
open PySem L2 PySem.Spec PyProof.Rows PySem.W
def spEqB (R : Addr → Addr → Bool → Hp → Prop) : Sp := fun vs H Q _ => ∃ a b c, vs = [.ref a, .ref b] ∧ R a b c H ∧ ∀ H', Ext H H' → Q (.bl c) H'
section
variable {prog : Program} {w : World} {A : Around} {E : Value → Shared → Prop} {s : Shared} {K : Frag} {x C f : Addr} {ox : Obj} {od : Option Obj} {name : Str} {b tb : Value}
theorem ifBound_B {M : Model} {id : String} {args : List Value} {Q : Option Value → Shared → Prop} (X : K.In s.heap) (I : InstAt s.heap x ox C od) (hs : findIn K (.ref C) name = some (some (.builtin id))) (hb : ∀ self, bindSpecial (.builtin id) self = pure (.builtin id, [self]))
    (h : wpAny M A (call (.builtin id) (.ref x :: args)) (fun v => Q (some v)) E s) : wpAny M A (callSpecialIfBound? (.ref x) name args) Q E s := by
  simp only [callSpecialIfBound?, bindSpecialIfBound?]
  refine wpAny_holding (wpAny_bind (wpAny_bind (wpAny_bind (I.type.here ((looks_findIn X hs).here ?_)))))
  refine wpAny_bind (wpAny_askSetting (wpAny_ite ?_))
  have fin : wpAny M A (call (.builtin id) ([.ref x] ++ args) >>= fun v => pure (some v)) Q E s := wpAny_bind (wpAny_mono h (fun v s' h' => wpAny_pure h') fun _ _ h' => h')
  split
  · exact wpAny_bind (wpAny_of_eq (hb _) (wpAny_pure (by exact fin)))
  · exact wpAny_tryCatch (wpAny_bind (wpAny_of_eq (hb _) (wpAny_pure (by exact fin))))
theorem slot_ne : Slot "object" "__ne__" "object.__ne__" :=
  .of (owner := "object") (n := "__ne__") (by rw [typeLookup_type, builtinLookup_eq_fast]; kernel_rfl) (by decide +kernel) (by decide +kernel) (by decide +kernel) (.inl (by decide +kernel)) (by rw [isSubtype_type]; kernel_rfl)
/-- x != b by the class's own == -/
theorem ne_K {Q : Value → Shared → Prop} {m : Str → Option Value} {h₀ : Heap} {L : Addr} (hu : A.units + 1 < cLine) (Fr0 : Fr h₀ L s.heap m) (X₀ : K.In h₀) (I : InstAt s.heap x ox C od) (hb : Looks (model prog w) s.heap (typeOf b) tb) (hn : notFirst K C tb = true)
    (hne : findIn K (.ref C) "__ne__" = some (some (.builtin "object.__ne__"))) (hob : subIn K (.ref C) (.type "object") = some true)
    (hs : findIn K (.ref C) "__eq__" = some (some (.ref f))) (hf : isFn K (.ref f) = true)
    (h : wpAny (model prog w) A.in1 (call (.ref f) [.ref x, b]) (fun v s' => ∃ c, v = .bool c ∧ Q (.bool (!c)) s') E s) : wpAny (model prog w) A (richCompare .NotEq (.ref x) b) Q E s := by
  have X := X₀.keeps Fr0.keep
  have one : wpAny (model prog w) A (tryCompare (.ref x) "__ne__" b) (fun r s' => ∃ v, r = some v ∧ Q v s') E s := by
    unfold tryCompare
    refine wpAny_bind (ifBound_B X I hne slot_ne.bind ?_)
    refine wpAny_call (codeAny_call_builtin slot_ne.plain PySem.F.cmpEntry_ne (check_slot PySem.F.cmpKind_ne PySem.F.cmpSplit_ne (I.type.andThen (looks_subIn X hob)) (PySem.F.cmpArgs_ne _ _) ?_))
    show wpAny _ A.in1 (Builtin.«object.__ne__» ⟨[.ref x, b], []⟩) _ _ s
    unfold Builtin.«object.__ne__»
    repeat (first | with_reducible refine wpAny_cRoomFor hu ?_ | (with_reducible refine ifBound_K X I hs hf ?_; refine wpAny_mono h (fun v s' hv => ?_) (fun _ _ e => e); obtain ⟨c, rfl, hq⟩ := hv) | wp_step)
    all_goals first | exact ⟨_, rfl, hq⟩ | skip
  unfold richCompare
  simp only [oneThing_ref]
  refine wpAny_holding (wpAny_bind (wpAny_cRoomFor (Nat.lt_of_succ_lt hu) ?_))
  refine wpAny_bind (I.type.here (wpAny_bind (hb.here ?_)))
  split
  · rename_i q
    have e : subIn K tb (.ref C) = some false := by
      rcases Bool.or_eq_true_iff.mp hn with e | e
      · rw [beq_iff_eq.mp e] at q; simp at q
      · exact beq_iff_eq.mp e
    refine wpAny_bind ((looks_subIn X e).here ?_)
    simp only [Bool.false_eq_true, if_false]
    refine wpAny_bind (wpAny_mono one (fun r s' z => ?_) fun _ _ e => e)
    obtain ⟨v, rfl, hq⟩ := z
    exact wpAny_pure hq
  · refine wpAny_bind (wpAny_pure ?_)
    simp only [Bool.false_eq_true, if_false]
    refine wpAny_bind (wpAny_mono one (fun r s' z => ?_) fun _ _ e => e)
    obtain ⟨v, rfl, hq⟩ := z
    exact wpAny_pure hq
end

section
variable {X : Cx} {n : Nat} {f C : Addr} {fd : FuncData} {ps : List Str} {R : Addr → Addr → Bool → Hp → Prop}
theorem run_own (F : FnOk X.prog X.w X.K X.mg X.base C8.CX0 n f fd ps (spEqB R)) (hb : L2.Binds X.K fd ps []) {A : Around} (sb : Sub X n A) {pins : List (Addr × Obj)} {s : Shared} {σ : L2.St} {H : Hp} {a b : Addr} {c : Bool} (I : L2.Inv X pins σ H s) (hr : R a b c H) :
    wpAny (model X.prog X.w) A (call (.ref f) [.ref a, .ref b]) (fun v s' => v = .bool c ∧ ∃ H', L2.Inv X pins σ H' s' ∧ Ext H H') X.xe s := by
  have hsp : spEqB R [.ref a, .ref b] H (fun v H' => v = .bl c ∧ Ext H H') C8.E0 := ⟨a, b, c, rfl, hr, fun H' e => ⟨rfl, e⟩⟩
  have e0 : Env0 X.prog X.w X.K X.mg X.base A X.stack s H := by
    have e := I.env0
    exact ⟨by rw [sb.fr]; exact e.frames, e.mod, e.bs, e.bsz, e.funs, e.frf, e.hok, e.bare⟩
  have hl := F.len _ _ _ _ hsp
  have r2 : Vals [V.ref a, V.ref b] [Value.ref a, Value.ref b] := .cons rfl (.cons rfl .nil)
  refine wpAny_call (codeAny_mono (F.run A X.stack s H ⟨[.ref a, .ref b], []⟩ [.ref a, .ref b] [.ref a, .ref b] _ C8.E0 sb.room e0 (by
    have := hb s [.ref a, .ref b] I.kIn (by simpa using hl)
    simpa using this) r2 hsp) fun r s' hq => ?_)
  cases r with
  | error e => exact False.elim hq
  | ok fl =>
    cases fl with
    | ret w =>
      obtain ⟨z, H', I', rz, ez, ex⟩ := I.after hq
      subst ez
      cases rz
      exact ⟨rfl, H', I', ex⟩
    | next => exact False.elim hq
    | brk => exact False.elim hq
    | cont => exact False.elim hq
def rOwnC (C : Addr) (R : Addr → Addr → Bool → Hp → Prop) (g : Bool → Bool) : R2 := fun x y H Q => ∃ a b dx dy fs gs c, x = .ref a ∧ y = .ref b ∧ H a = some (.ins C dx fs) ∧ H b = some (.ins C dy gs) ∧ R a b c H ∧ ∀ H', Ext H H' → Q (.bl (g c)) H'
theorem op_eqO (F : FnOk X.prog X.w X.K X.mg X.base C8.CX0 n f fd ps (spEqB R)) (hb : L2.Binds X.K fd ps []) (hr : Room n X.A) (hs : findIn X.K (.ref C) "__eq__" = some (some (.ref f))) (hf : isFn X.K (.ref f) = true) : OpR X (compareOp .Eq) (rOwnC C R id) := by
  intro pins s σ H x y v u Q I rx ry hq
  obtain ⟨a, b, dx, dy, fs, gs, c, rfl, rfl, ha, hb', hR, q⟩ := hq
  cases rx
  cases ry
  obtain ⟨mA, J, _⟩ := ins_get I.hok ha
  obtain ⟨mB, J', _⟩ := ins_get I.hok hb'
  obtain ⟨od, J, _⟩ := J.look
  obtain ⟨od', J', _⟩ := J'.look
  obtain ⟨m, hF⟩ := I.fr
  show wpAny (model X.prog X.w) X.A (richCompare .Eq _ _) _ X.xe s
  refine cmp_K (op := .Eq) (tb := .ref C) hr.units0 hF I.ok.mod.kin J J'.type (by simp [notFirst]) hs hf (wpAny_mono (run_own F hb ⟨hr, rfl⟩ I hR) (fun v s' z => ?_) fun _ _ x => x)
  obtain ⟨rfl, H', I', e⟩ := z
  exact ⟨.bl c, H', I', rfl, q H' e⟩
theorem op_neO (F : FnOk X.prog X.w X.K X.mg X.base C8.CX0 n f fd ps (spEqB R)) (hb : L2.Binds X.K fd ps []) (hr : Room (n + 1) X.A) (hu : X.A.units + 1 < cLine) (hs : findIn X.K (.ref C) "__eq__" = some (some (.ref f))) (hf : isFn X.K (.ref f) = true)
    (hne : findIn X.K (.ref C) "__ne__" = some (some (.builtin "object.__ne__"))) (hob : subIn X.K (.ref C) (.type "object") = some true) : OpR X (compareOp .NotEq) (rOwnC C R (!·)) := by
  intro pins s σ H x y v u Q I rx ry hq
  obtain ⟨a, b, dx, dy, fs, gs, c, rfl, rfl, ha, hb', hR, q⟩ := hq
  cases rx
  cases ry
  obtain ⟨mA, J, _⟩ := ins_get I.hok ha
  obtain ⟨mB, J', _⟩ := ins_get I.hok hb'
  obtain ⟨od, J, _⟩ := J.look
  obtain ⟨od', J', _⟩ := J'.look
  obtain ⟨m, hF⟩ := I.fr
  show wpAny (model X.prog X.w) X.A (richCompare .NotEq _ _) _ X.xe s
  refine ne_K (tb := .ref C) hu hF I.ok.mod.kin J J'.type (by simp [notFirst]) hne hob hs hf (wpAny_mono (run_own F hb (Sub.in1 ⟨hr, rfl⟩) I hR) (fun v s' z => ?_) fun _ _ x => x)
  obtain ⟨rfl, H', I', e⟩ := z
  exact ⟨c, rfl, .bl (!c), H', I', rfl, q H' e⟩
end
end K57
end part_K57QJ
section part_K57QK
set_option Elab.async false
set_option linter.all false
set_option maxRecDepth 100000
set_option maxHeartbeats 4000000
/-! Origin.__eq__ -/
namespace K57
open PySem L2 Org
section
variable {P : Program} {w : World} {K : PySem.W.Frag} {mg : Str → Option Value} {base : Heap}
/-- two origins, compared -/
def OriEq (K : PySem.W.Frag) (CO : Addr) (a b : Addr) (c : Bool) (H : Hp) : Prop := ∃ (dx dy : Addr) (ra rb : V) (x y : Str) (d e : PyData), H a = some (.ins CO dx [("row", ra), ("text", .str x)]) ∧ H b = some (.ins CO dy [("row", rb), ("text", .str y)]) ∧ Dp K H ra d ∧ Dp K H rb e ∧
  SeqAt.shaped d = true ∧ SeqAt.shaped e = true ∧ c = (PyData.eqv d e && decide (V.str x = V.str y))
abbrev nOeq : List Str := ["self", "other"]
theorem scOeq : FnScope nOeq ["self", "other"] (C8.fnScope sOriE) := C8.fnScope_by (by decide +kernel)
theorem fn_oeq {f CO : Addr} {fd : FuncData} (F : C8.Fun K "__eq__" "Origin.__eq__" sOriE f fd) (Tx : Txt K mg) (hmg : mg "Origin" = some (.ref CO)) (ic : C8.InsC K CO) (cl : Cls K CO) (n1 : NoAttr K CO "row") (n2 : NoAttr K CO "text") :
    FnOk P w K mg base C8.CX0 1 f fd ["self", "other"] (spEqB (OriEq K CO)) := by
  refine C8.fn0 F scOeq (fun vs H Q E h => ?_) (fun cdv A outer s H vs Q E hr h => ?_)
  · obtain ⟨a, b, c, rfl, _⟩ := h
    rfl
  · obtain ⟨a, b, c, rfl, ⟨dx, dy, ra, rb, x, y, d, e, ha, hb, hd, he, sd, se, rfl⟩, k⟩ := h
    refine ⟨_, pss_one (ps_ret (pe_and (pe_callB (C8.call_isC ic) (by rfl) Tx.isi (by decide +kernel) (pa_cons (pv 1) (pa_cons (C8.pe_gc (v := .ref CO) (by rfl) ⟨_, hmg, rfl⟩) pa_nil)))
      (pe_and (pe_cmpR (op_eqD hr.units) (pe_fldK (K' := K) (by rfl) (pv 0)) (pe_fldK (K' := K) (by rfl) (pv 1)) (nomark _)) (pe_one (pe_cmpR op_eq (pe_fldK (K' := K) (by rfl) (pv 0)) (pe_fldK (K' := K) (by rfl) (pv 1)) (nomark _)))))), ?_⟩
    refine ⟨_, rfl, b, dy, _, rfl, hb, _, rfl, iteT ?_⟩
    refine ⟨_, rfl, a, CO, dx, _, _, rfl, ha, cl, n1, rfl, _, rfl, b, CO, dy, _, _, rfl, hb, cl, n1, rfl, d, e, hd, he, sd, se, _, rfl, ?_⟩
    refine ite2 (fun c1 => ?_) (fun c1 => ?_)
    · refine ⟨_, rfl, a, CO, dx, _, _, rfl, ha, cl, n2, rfl, _, rfl, b, CO, dy, _, _, rfl, hb, cl, n2, rfl, rfl, ?_⟩
      have := k H Ext.rfl'
      rw [c1, Bool.true_and] at this
      exact this
    · have := k H Ext.rfl'
      rw [Bool.not_eq_true] at c1
      rw [c1, Bool.false_and] at this
      exact this
end
end K57
end part_K57QK
section part_K57QL
set_option Elab.async false
set_option linter.all false
set_option maxRecDepth 100000
set_option maxHeartbeats 4000000
/-! the lambdas' bodies: list(origins(..)) -/
namespace K57
open PySem L2 Org PySem.Spec PyProof.Rows
/-- E, for one class alone -/
def onlyC (CT : Addr) (E : XK) : XK := fun cls d H => cls = .ref CT ∧ E cls d H
section
variable {X : Cx} {A : Around} {outer : List Env} {s : Shared} {H : Hp} {E : XK} {scope : Scope} {f c' fO : Addr} {fd : FuncData} {CM CO CT : Addr} {T : List (Addr × Str)} {p p1 p2 pos : Pos} {x y : Str} {i j : Nat}
theorem lam_passes : Passes (L2.CX X.prog X.w) (LamX.lamCx X A outer s H E scope f c') (onlyC CT E) :=
  passes_call (takes_of (X := LamX.lamCx X A outer s H E scope f c') (E := E) rfl rfl rfl rfl) fun _ _ _ _ h => h.2
theorem pe_lamL {e : Expr} {tg : TGen} (h : PGen (LamX.lamCx X A outer s H E scope f c') 6 e tg (onlyC CT E)) (hr : Room 9 (LamX.lamCx X A outer s H E scope f c').A) (hgl : Gl (LamX.lamCx X A outer s H E scope f c') "list") (hml : X.mg "list" = none)
    (hns : PySem.W.subIn X.K (.ref CT) (.type "StopIteration") = some false)
    (he : starEach [e] (LamX.lamCx X A outer s H E scope f c').env = (false, eval e (LamX.lamCx X A outer s H E scope f c').env) :: starEach [] (LamX.lamCx X A outer s H E scope f c').env) :
    PE (LamX.lamCx X A outer s H E scope f c') (.Call (.Name "list" p) [e] [] pos) (tListG tg) := by
  have hns' : NoStop (LamX.lamCx X A outer s H E scope f c').K (onlyC CT E) := fun cls d H' h => by
    rw [h.1]
    exact hns
  have hv : bootBuiltins ("list" : Str) = some (.type "list") := by decide +kernel
  have hr' : Room (6 + 3) (LamX.lamCx X A outer s H E scope f c').A := hr
  have hp : Passes (L2.CX (LamX.lamCx X A outer s H E scope f c').prog (LamX.lamCx X A outer s H E scope f c').w) (LamX.lamCx X A outer s H E scope f c') (onlyC CT E) := lam_passes (X := X) (A := A) (outer := outer) (s := s) (H := H) (E := E) (scope := scope) (f := f) (c' := c') (CT := CT)
  have hml' : (LamX.lamCx X A outer s H E scope f c').mg "list" = none := hml
  generalize LamX.lamCx X A outer s H E scope f c' = Y at *
  exact pe_listG (nm := "list") h hp hns' hr' hgl hml' hv (by decide) (by decide) he
end
end K57
end part_K57QL
section part_K57QM
set_option Elab.async false
set_option linter.all false
set_option maxRecDepth 100000
set_option maxHeartbeats 4000000
/-! the law -/
namespace K57
open PySem L2 Org
abbrev nLaw : List Str := ["_law_script", "_law_pen_here", "_law_turn", "_law_letters", "_law_again", "_law_rules", "_law_lot", "_law_due", "_law_one", "_law_other", "_law_some", "_law_text_so", "_law_images_so"]
theorem scLaw : FnScope nLaw ["_law_script"] (C8.fnScope sLaw) := C8.fnScope_by (by decide +kernel)
/-- _law_heard, the rows told at the call -/
def TTL (CO CT : Addr) : (XK → Hp → VK → Prop) → Hp → VK → Prop := fun tl H Q => ∃ F, TTh CO CT F tl H Q
theorem heard_givesL {X : Cx} {g CO CT CR : Addr} {cdg : Value} {q : Str} (hmR : X.mg "RepairError" = some (.ref CR)) (hmT : X.mg "TooMany" = some (.ref CT)) (hmi : X.mg "isinstance" = none) (ex1 : PySem.W.exmOne X.K (.ref CT) (.ref CR) = some true)
    (ec : ExcC X.K CT) (k1 : PySem.W.kitOne X.K (.ref CT) (.ref CT) = some true) (xf : XfC X.K CT) (w1 : PySem.W.findIn X.K (.ref CT) "what" = some none) (w2 : PySem.W.findIn X.K (.ref CT) "most" = some none) (cl : Cls X.K CO) (n1 : NoAttr X.K CO "row") (n2 : NoAttr X.K CO "text") :
    LamX.GivesTo X nHeard "_law_heard" (C8.fnScope sHeard) g cdg (C8.fnBody sHeard) "_law_ask_so" q (TTL CO CT) := by
  intro f c' s H Q tl act hc h
  obtain ⟨F, h⟩ := h
  exact heard_gives (F := F) hmR hmT hmi ex1 ec k1 xf w1 w2 cl n1 n2 f c' s H Q tl act hc h
end K57
end part_K57QM
section part_K57QO
set_option Elab.async false
set_option linter.all false
set_option maxRecDepth 100000
set_option maxHeartbeats 4000000
/-! helpers for the law's readings -/
namespace K57
open PySem L2 Org
theorem tabs_keep {T : List (Addr × Str)} {H H' : Hp} {p : Addr} {kv : List V} (t : LamX.Tabs T H) (hp : H p = some (.lst kv)) (k : Keep p H H') : LamX.Tabs T H' := fun q hq => by
  obtain ⟨ps, h, tr, z⟩ := t q hq
  refine ⟨ps, k _ _ h (ne_of h hp (fun z => nomatch z)), tr, fun pos cv hc => ?_⟩
  obtain ⟨c, e, hcc⟩ := z pos cv hc
  exact ⟨c, e, k _ _ hcc (fun e2 => by
    rw [e2, hp] at hcc
    exact nomatch (Option.some.inj hcc))⟩
theorem tab_of {m : Mis} {z : List Nat} (hs : (m.map (·.1)).Sublist z) (ha : z.Pairwise (· < ·)) (hl : z.length ≤ 4) (hw : ∀ c ∈ z, Low c) (hi : ∀ q ∈ m, 1 ≤ q.2.length ∧ q.2.length ≤ 3 ∧ ∀ c ∈ q.2, c ∈ z) : Tab m ∧ Good m ∧ m.length ≤ 100 ∧ ∀ q ∈ m, q.2.length ≤ 100 := by
  have hml : m.length ≤ 4 := by have := hs.length_le; rw [List.length_map] at this; omega
  have t : Tab m := ⟨ha.sublist hs, by omega, fun q hq => hw _ (hs.subset (List.mem_map.mpr ⟨q, hq, rfl⟩)), fun q hq => ⟨(hi q hq).1, by have := (hi q hq).2.1; omega, fun c hc => hw _ ((hi q hq).2.2 c hc)⟩⟩
  refine ⟨t, ⟨t.nd, fun q hq e => ?_⟩, by omega, fun q hq => by have := (hi q hq).2.1; omega⟩
  have := (hi q hq).1
  rw [e] at this
  exact absurd this (by decide)
theorem cut_abcd (d : Int) (h0 : 0 ≤ d) (h3 : d < 3) : ∃ z : List Nat, cutS (Str.ofString "abcd") none (some (2 + d)) = SX.S z ∧ z ≠ [] ∧ z.length ≤ 4 ∧ z.Pairwise (· < ·) ∧ z.Nodup ∧ ∀ c ∈ z, Low c := by
  have e : d = 0 ∨ d = 1 ∨ d = 2 := by omega
  rcases e with rfl | rfl | rfl
  · exact ⟨[97, 98], by decide +kernel, by decide, by decide, by decide, by decide, by unfold Low; decide⟩
  · exact ⟨[97, 98, 99], by decide +kernel, by decide, by decide, by decide, by decide, by unfold Low; decide⟩
  · exact ⟨[97, 98, 99, 100], by decide +kernel, by decide, by decide, by decide, by decide, by unfold Low; decide⟩
end K57
end part_K57QO
section part_K57QP
set_option Elab.async false
set_option linter.all false
set_option maxRecDepth 100000
set_option maxHeartbeats 4000000
/-! the law's readings: what stands at a turn, what is due, what is heard -/
namespace K57
open PySem L2 Org
/-- the two ways' ends are the same -/
theorem ends_one {ms : List Mis} {al : Nat → Prop} {b : Nat} {F F' G : Found} (E : Ends ms al b F G) (E' : Ends ms al b F' G) (hb : b ≤ 8000) : F = F' := by
  refine List.Perm.eq_of_pairwise (le := keyLt) (fun p q hp hq h h' => ?_) E.srt E'.srt (E.perm.trans E'.perm.symm)
  have a1 := Nat.le_trans (E.ok p hp).len hb
  have a2 := Nat.le_trans (E'.ok q hq).len hb
  have a3 : p.2.length ≤ 8000 := by have := E.row p hp; have := E.few; omega
  have a4 : q.2.length ≤ 8000 := by have := E'.row q hq; have := E'.few; omega
  exact absurd (enc_lt h' a2 a1 a4 a3) (lt_as (enc_lt h a1 a2 a3 a4))
theorem mis_keep {H H' : Hp} {CM r p : Addr} {m : Mis} {ys : List V} (h : MisAt H CM r m) (hp : H p = some (.lst ys)) (k : Keep p H H') : MisAt H' CM r m := by
  obtain ⟨dx, d, fs, h1, h2, h3⟩ := h
  exact ⟨dx, d, fs, k _ _ h1 (ne_of h1 hp (fun z => nomatch z)), h2, k _ _ h3 (ne_of h3 hp (fun z => nomatch z))⟩
theorem mis_ext {H H' : Hp} {CM r : Addr} {m : Mis} (h : MisAt H CM r m) (e : LamX.ExtN H H') : MisAt H' CM r m := by
  obtain ⟨dx, d, fs, h1, h2, h3⟩ := h
  exact ⟨dx, d, fs, e _ _ h1 (fun ps z => nomatch z), h2, e _ _ h3 (fun ps z => nomatch z)⟩
theorem row_ext {H H' : Hp} {q : Addr} {p : Org.T × Row} (h : RowOut H q p) (e : LamX.ExtN H H') : RowOut H' q p := by
  obtain ⟨b, h1, h2⟩ := h
  exact ⟨b, e _ _ h1 (fun ps z => nomatch z), e _ _ h2 (fun ps z => nomatch z)⟩
/-- what stands at a turn -/
structure Sit (CM : Addr) (T : List (Addr × Str)) (H : Hp) (p l D Lo : Addr) (ns : List Int) (z : List Nat) (ds os : List Addr) (mm : List Mis) (t g : Int) : Prop where
  tab : LamX.Tabs T H
  pen : Pen H p l ns t g
  rl : H D = some (.lst (ds.map V.ref))
  rules : Rules H z ds mm
  lo : H Lo = some (.lst (os.map V.ref))
  mis : Paired (MisAt H CM) os mm
section
variable {CM p l D Lo : Addr} {T : List (Addr × Str)} {H H' : Hp} {ns : List Int} {z : List Nat} {ds os : List Addr} {mm : List Mis} {t g t' g' : Int}
theorem Sit.keep (S : Sit CM T H p l D Lo ns z ds os mm t g) (k : Keep p H H') (e : H' p = some (.lst [.ref l, .int t', .int g'])) : Sit CM T H' p l D Lo ns z ds os mm t' g' where
  tab := tabs_keep S.tab S.pen.pen k
  pen := S.pen.keep k e
  rl := k _ _ S.rl (S.pen.noR S.rl)
  rules := S.rules.keep (p := p) fun d kvs h => k _ _ h (S.pen.noD h)
  lo := k _ _ S.lo (S.pen.noR S.lo)
  mis := Paired.mapP S.mis fun _ _ h => mis_keep h S.pen.pen k
theorem Sit.ext (S : Sit CM T H p l D Lo ns z ds os mm t g) (e : LamX.ExtN H H') (tb : LamX.Tabs T H') : Sit CM T H' p l D Lo ns z ds os mm t g where
  tab := tb
  pen := ⟨e _ _ S.pen.pen (fun ps z => nomatch z), e _ _ S.pen.cells (fun ps z => nomatch z)⟩
  rl := e _ _ S.rl (fun ps z => nomatch z)
  rules := S.rules.keep (p := p) fun d kvs h => e _ _ h (fun ps z => nomatch z)
  lo := e _ _ S.lo (fun ps z => nomatch z)
  mis := Paired.mapP S.mis fun _ _ h => mis_ext h e
theorem Sit.same (S : Sit CM T H p l D Lo ns z ds os mm t g) (s : Same H H') : Sit CM T H' p l D Lo ns z ds os mm t g :=
  S.ext (LamX.ExtN.of s) (S.tab.ext s)
end
/-- the rules' facts -/
theorem Rules.good {H : Hp} {z : List Nat} {ds : List Addr} {mm : List Mis} (R : Rules H z ds mm) (ha : z.Pairwise (· < ·)) (hl : z.length ≤ 4) (hw : ∀ c ∈ z, Low c) : ∀ m ∈ mm, Tab m ∧ Good m ∧ m.length ≤ 100 ∧ ∀ q ∈ m, q.2.length ≤ 100 :=
  fun m hm => tab_of (R.keys m hm) ha hl hw (R.imgs m hm)
/-- the law's own way back: as it comes -/
def DueL (H : Hp) (v : V) (mm : List Mis) (u : Org.T) : Prop := (origP mm u = none ∧ v = .non) ∨ ∃ F l qs, origP mm u = some F ∧ F.length ≤ 500 ∧ (∀ p ∈ F, Sign p.1) ∧ v = .ref l ∧ H l = some (.lst (qs.map V.ref)) ∧ Paired (RowOut H) qs F
/-- what is due -/
def Due (H : Hp) (v : V) (mm : List Mis) (u : Org.T) : Prop := (origP mm u = none ∧ ∃ q, v = .ref q ∧ H q = some (.tup [.str "many", .str "texts", .int 500])) ∨ ∃ F l qs, origP mm u = some F ∧ F.length ≤ 500 ∧ (∀ p ∈ F, Sign p.1) ∧ v = .ref l ∧ H l = some (.lst (qs.map V.ref)) ∧ Paired (RowOut H) qs F
theorem Due.ext {H H' : Hp} {v : V} {mm : List Mis} {u : Org.T} (h : Due H v mm u) (e : LamX.ExtN H H') : Due H' v mm u := by
  rcases h with ⟨h1, q, rfl, h2⟩ | ⟨F, l, qs, h1, h2, h3, rfl, h4, h5⟩
  · exact .inl ⟨h1, q, rfl, e _ _ h2 (fun ps z => nomatch z)⟩
  · exact .inr ⟨F, l, qs, h1, h2, h3, rfl, e _ _ h4 (fun ps z => nomatch z), Paired.mapP h5 fun _ _ h => row_ext h e⟩
theorem Due.keep {H H' : Hp} {v : V} {mm : List Mis} {u : Org.T} {p l : Addr} {ns : List Int} {t g : Int} (h : Due H v mm u) (P : Pen H p l ns t g) (k : Keep p H H') : Due H' v mm u := by
  rcases h with ⟨h1, q, rfl, h2⟩ | ⟨F, l, qs, h1, h2, h3, rfl, h4, h5⟩
  · exact .inl ⟨h1, q, rfl, k _ _ h2 (ne_of h2 P.pen (fun z => nomatch z))⟩
  · refine .inr ⟨F, l, qs, h1, h2, h3, rfl, k _ _ h4 (P.noR h4), Paired.mapP h5 fun _ _ h => ?_⟩
    obtain ⟨b, g1, g2⟩ := h
    exact ⟨b, k _ _ g1 (ne_of g1 P.pen (fun z => nomatch z)), k _ _ g2 (ne_of g2 P.pen (fun z => nomatch z))⟩
theorem low_sign {c : Nat} (h : Low c) : c < 1114112 := by have := h.2; omega
/-- _law_origins, with one end -/
theorem lorigins_one {H : Hp} {Q : VK} {E : XK} {D : Addr} {z : List Nat} {ds : List Addr} {mm : List Mis} {u : Org.T} (rl : H D = some (.lst (ds.map V.ref))) (R : Rules H z ds mm) (ha : z.Pairwise (· < ·)) (hl : z.length ≤ 4) (hw : ∀ c ∈ z, Low c) (dl : ds.length ≤ 4)
    (ul : u.length ≤ 7) (uz : ∀ c ∈ u, c ∈ z) (h : ∀ H' v, Same H H' → DueL H' v mm u → Q v H') : spLOrigins [.ref D, .str (SX.S u)] H Q E := by
  have G := R.good ha hl hw
  have ml : mm.length ≤ 4 := by rw [← paired_len R.dic]; exact dl
  have ou := orig_both (ms := mm) (al := Low) (t := u) (fun m hm => (G m hm).2.1) (fun m hm c hc => hw _ ((R.keys m hm).subset hc)) (fun c hc => hw _ (uz c hc))
  refine ⟨D, ds, mm, u, Low, rfl, rl, ⟨R.dic, fun m hm => (G m hm).2.1, fun m hm => (G m hm).2.2.1, fun m hm => (G m hm).2.2.2, ml⟩, by omega, fun c hc => hw _ (uz c hc), fun m hm c hc => hw _ ((R.keys m hm).subset hc), fun c hc e => by have := hc.1; omega, fun H' ho s => ?_, fun H' F G' l qs ho E1 s hl' pr => ?_⟩
  · rcases ou with ⟨o1, _⟩ | ⟨F, G', _, o2, _⟩
    · exact h H' _ s (.inl ⟨o1, rfl⟩)
    · rw [ho] at o2; cases o2
  · rcases ou with ⟨_, o2⟩ | ⟨F', G2, o1, o2, E2⟩
    · rw [ho] at o2; cases o2
    · rw [ho] at o2
      cases o2
      have e := ends_one E1 E2 (by omega)
      rw [← e] at o1
      exact h H' _ s (.inr ⟨F, l, qs, o1, E1.few, fun p hp c hc => low_sign ((E1.ok p hp).al c hc), rfl, hl', pr⟩)
/-- None becomes what TooMany tells -/
theorem due_one {σ : L2.St} {H : Hp} {Q : VK} {v : V} {mm : List Mis} {u : Org.T} (hv : σ[7]? = some (some v)) (due : DueL H v mm u) (h : ∀ v' H', Same H H' → Due H' v' mm u → Q v' H') :
    tIf (tTest (tOp (fun x y H Q => y = V.non ∧ Q (V.bl !decide (x = V.non)) H) (tVar 7) (tC V.non))) (tVar 7) (tTup (tCons (tC (V.str "many")) (tCons (tC (V.str "texts")) (tCons (tC (V.int 500)) tNil)))) σ H Q := by
  rcases due with ⟨h1, rfl⟩ | ⟨F, l, qs, h1, h2, h3, rfl, h4, h5⟩
  · refine ⟨_, hv, rfl, _, rfl, iteF ⟨le_line (m := 3) (Nat.le_refl _), fun q hq => h _ _ (Same.new hq) (.inl ⟨h1, q, rfl, upd_same⟩)⟩⟩
  · exact ⟨_, hv, rfl, _, rfl, iteT ⟨_, hv, h _ _ (fun _ _ e => e) (.inr ⟨F, l, qs, h1, h2, h3, rfl, h4, h5⟩)⟩⟩
def dueD : Option Found → PyData
  | none => .tuple [.str "many", .str "texts", .int 500]
  | some F => .list (outD F)
theorem Due.dp {K : PySem.W.Frag} {H : Hp} {v : V} {mm : List Mis} {u : Org.T} (h : Due H v mm u) : Dp K H v (dueD (origP mm u)) ∧ SeqAt.shaped (dueD (origP mm u)) = true := by
  rcases h with ⟨h1, q, rfl, h2⟩ | ⟨F, l, qs, h1, h2, h3, rfl, h4, h5⟩
  · rw [h1]
    exact ⟨.tup (SqT.of h2) (.cons (.str _) (.cons (.str _) (.cons (.int _) .nil))), by decide +kernel⟩
  · rw [h1]
    exact ⟨.lst (SqL.of h4) (dp_out h5), shaped_out h3⟩
theorem eqv_self {d : PyData} (h : SeqAt.shaped d = true) : PyData.eqv d d = true := PySem.SeqAt.eqv_refl d (Bool.and_eq_true_iff.mp h).1
/-- what is heard is what is due -/
theorem heard_read {K : PySem.W.Frag} {CM CO CT : Addr} {T : List (Addr × Str)} {σ : L2.St} {H : Hp} {Q : VK} {v : V} {mm : List Mis} {u : Org.T} {lt : Addr} {b : Bool} {os : List Addr} {tg : XK → TGen} (hv : σ[7]? = some (some v))
    (htg : ∀ E2 H0 cont, spOG CM CO CT T [.ref lt, .str (SX.S u)] H0 cont (onlyC CT E2) → tg E2 σ H0 cont) (tb : LamX.Tabs T H) (hl : LotAt H lt (os.map V.ref) b) (lot : Lot H CM os mm) (l1 : 1 ≤ os.length) (l4 : os.length ≤ 4) (ul : u.length ≤ 7) (uw : ∀ c ∈ u, Low c)
    (due : Due H v mm u) (h : ∀ H', LamX.ExtN H H' → LamX.Tabs T H' → Q (.bl false) H') : tOp (rNeD K) (LamX.tLam T (TTL CO CT) fun E2 => tListG (tg E2)) (tVar 7) σ H Q := by
  have fin : ∀ L H1, LamX.ExtN H H1 → LamX.Tabs T H1 → Dp K H1 L (dueD (origP mm u)) → tVar 7 σ H1 fun y H2 => rNeD K L y H2 Q := fun L H1 e tb1 dL => by
    obtain ⟨d2, sh⟩ := (due.ext e).dp (K := K)
    refine ⟨_, hv, _, _, dL, d2, sh, sh, ?_⟩
    rw [eqv_self sh]
    exact h H1 e tb1
  have hlx : ∀ {H1}, LamX.ExtN H H1 → LotAt H1 lt (os.map V.ref) b := fun e => by
    rcases hl with ⟨b1, h1⟩ | ⟨b1, h1⟩
    · exact .inl ⟨b1, e _ _ h1 (fun ps z => nomatch z)⟩
    · exact .inr ⟨b1, e _ _ h1 (fun ps z => nomatch z)⟩
  have lotx : ∀ {H1}, LamX.ExtN H H1 → Lot H1 CM os mm := fun e => ⟨Paired.mapP lot.at_ fun _ _ h => mis_ext h e, lot.good, lot.len, lot.imgs, lot.keys, lot.few⟩
  refine ⟨tb, fun H1 e1 tb1 => ⟨(origP mm u).getD [], fun H0 Qv s0 hQv => htg _ _ _ ?_⟩⟩
  have e0 := e1.trans (LamX.ExtN.of s0)
  refine ⟨lt, b, os, mm, u, rfl, hlx e0, lotx e0, l1, l4, by omega, uw, tb1.ext s0, fun dd H2 ho e2 tb2 hx => ⟨rfl, rfl, dd, _, _, rfl, hx, fun a Tq ha hTq => ?_⟩, fun F rs H2 ho hF e2 tb2 pr p hp => hQv _ _ ⟨p, rs, rfl, upd_same, ?_, ?_, fun L ts H3 s3 h3 pr3 => ?_⟩⟩
  · have s1 : Same H2 (upd (upd H2 a (HeldE a (.ref CT) (some dd))) Tq (.tup [.str "many", .str "texts", .int 500])) := fun b u e => Same.new hTq _ _ (Same.new ha _ _ e)
    refine fin _ _ ((e0.trans e2).trans (LamX.ExtN.of s1)) (tb2.ext s1) ?_
    rw [ho]
    exact .tup (SqT.of upd_same) (.cons (.str _) (.cons (.str _) (.cons (.int _) .nil)))
  · rw [ho]
    refine Paired.mapP pr fun o q ⟨dx, b, fs, g1, g2, g3, g4⟩ => ⟨dx, b, fs, Same.new hp _ _ g1, g2, g3, Same.new hp _ _ g4⟩
  · rw [ho]
    show F.length ≤ 2000
    omega
  · rw [ho] at pr3
    have s4 : Same H2 H3 := fun b u e => s3 _ _ (Same.new hp _ _ e)
    refine fin _ _ ((e0.trans e2).trans (LamX.ExtN.of s4)) (tb2.ext s4) ?_
    rw [ho]
    exact .lst (SqL.of h3) (dp_out pr3)
end K57
end part_K57QP
section part_K57QN
set_option Elab.async false
set_option linter.all false
set_option maxRecDepth 100000
set_option maxHeartbeats 4000000
/-! the law's body: the term -/
namespace K57
open PySem L2 Org
section
variable {P : Program} {w : World} {K : PySem.W.Frag} {mg : Str → Option Value} {base : Heap}
def spLaw (T : List (Addr × Str)) : Sp := fun vs H Q _ => ∃ (a : Addr) (ns : List Int), vs = [.ref a] ∧ SqL K H a (ns.map V.int) ∧ LamX.Tabs T H ∧ ∀ H', Q (.bl true) H'
theorem fn_law {T : List (Addr × Str)} {f g CM CO CT CR fOr fE : Addr} {fd fdg fdOr fdE : FuncData} (Fg : C8.Def K mg "_law_heard" sHeard g fdg) (dg : fdg.defaults = .none) (FO : GFn P w K mg base 6 fOr fdOr ["misreadings", "text"] (spOG CM CO CT T)) (mO : mg "origins" = some (.ref fOr)) (kO : PySem.W.keepIn K (.ref fOr) = true) (bO : L2.Binds K fdOr ["misreadings", "text"] [])
    (hmR : mg "RepairError" = some (.ref CR)) (hmT : mg "TooMany" = some (.ref CT)) (ex1 : PySem.W.exmOne K (.ref CT) (.ref CR) = some true) (ec : ExcC K CT) (k1 : PySem.W.kitOne K (.ref CT) (.ref CT) = some true) (xf : XfC K CT) (w1 : PySem.W.findIn K (.ref CT) "what" = some none) (w2 : PySem.W.findIn K (.ref CT) "most" = some none) (cl : Cls K CO) (n1 : NoAttr K CO "row") (n2 : NoAttr K CO "text")
    (kbO : KBinds K fdOr ["misreadings", "text"] ["text", "misreadings"] (fun us ws => us ++ ws.reverse) (fun vs zs => vs ++ zs.reverse)) (MO : Mk K CO fE) (hmO : mg "Origin" = some (.ref CO)) (FI : FnOk P w K mg base C8.CX0 1 fE fdE ["self", "row", "text"] (spOri CO)) (kbI : KBn K fdE ["self", "row", "text"] 1 ["text", "row"] (fun us ws => us ++ ws.reverse) (fun vs zs => vs ++ zs.reverse))
    {fq : Addr} {fdq : FuncData} (FE : FnOk P w K mg base C8.CX0 1 fq fdq ["self", "other"] (spEqB (OriEq K CO))) (bE : L2.Binds K fdq ["self", "other"] []) (hsE : PySem.W.findIn K (.ref CO) "__eq__" = some (some (.ref fq))) (hfE : PySem.W.isFn K (.ref fq) = true) (hneE : PySem.W.findIn K (.ref CO) "__ne__" = some (some (.builtin "object.__ne__"))) (hobE : PySem.W.subIn K (.ref CO) (.type "object") = some true) (hns0 : PySem.W.subIn K (.ref CT) (.type "StopIteration") = some false) (TO : TabOf base mg fd "law.<locals>.<lambda>" T) (F : C8.Fun K "law" "law" sLaw f fd) (Tx : Txt K mg)
    (cPen : C8.Cal P w K mg base 1 "_law_pen" (spPen K) []) (cDraw : C8.Cal P w K mg base 1 "_law_draw" spDraw []) (cPick : C8.Cal P w K mg base 2 "_law_pick" spPick []) (cIm : C8.Cal P w K mg base 4 "_law_images" spImages [])
    (cGarb : C8.Cal P w K mg base 4 "_law_garbled" spGarbled []) (cOrig : C8.Cal P w K mg base 2 "_law_origins" spLOrigins []) (mMis : C8.Mak P w K mg base 4 "Misreading" CM (spMis CM) [.str (SX.S [])]) (mOri : C8.Mak P w K mg base 1 "Origin" CO (spOri CO) []) :
    FnOk P w K mg base C8.CX0 20 f fd ["_law_script"] (spLaw (K := K) T) := by
  refine fnA F scLaw (fun vs H Q E h => ?_) (fun A outer s H vs Q E hr h => ?_)
  · obtain ⟨a, ns, rfl, _⟩ := h
    rfl
  · obtain ⟨a, ns, rfl, hns, hT, k⟩ := h
    have hu := hu_of hr
    obtain ⟨c, Pt, hcode, TB, hmTab, hu0⟩ := TO.ex
    have bg := Fg.fn.binds dg (ps := ["_law_ask_so"]) fun _ _ _ _ _ _ us hl => match us, hl with | [_], _ => rfl
    obtain ⟨ocg, odg, dVg, kVg, docg, pmg, ang, cdvg, ctg, oslg, rfl, lkg, hcg⟩ := Fg.fn.ex
    refine ⟨_, pss_cons (ps_set (i := 1) scLaw.nd rfl (Or.inr rfl) (C8.pe_c cPen hr (by decide) (by rfl) (pa_cons (pv 0) pa_nil)))
      (pss_cons (ps_for PassesOwn.never rfl (pi_range1 (by rfl) Tx.range (pa_cons pe_int pa_nil)) (pg_name (i := 2) scLaw.nd rfl (Or.inl rfl))
        (pss_cons (ps_set (i := 3) scLaw.nd rfl (Or.inr rfl) (pe_slice sl_str pe_str po_none (po_some (pe_op op_add pe_int (C8.pe_c cDraw hr (by decide) (by rfl) (pa_cons (pv 1) (pa_cons pe_int pa_nil)))))))
        (pss_cons (ps_setLc (i := 5) (own := [("_law_again", 4)]) (g := gName 4) (tt := tYes) rfl scLaw.nd rfl rfl (sw_true rfl rfl rfl (by decide +kernel)) (pi_range1 (by rfl) Tx.range (pa_cons (pe_op op_add pe_int (C8.pe_c cDraw hr (by decide) (by rfl) (pa_cons (pv 1) (pa_cons pe_int pa_nil)))) pa_nil))
            (blkOk_by (N := nLaw) (sc := C8.fnScope sLaw) (by decide +kernel)) (fun _ _ _ _ _ => pg_name (i := 4) scLaw.nd rfl (Or.inl rfl)) (fun _ _ _ _ _ => pts_nil) (fun _ _ _ _ _ => C8.pe_c cIm hr (by decide) (by rfl) (pa_cons (pv 1) (pa_cons (pv 3) pa_nil))))
        (pss_cons (ps_setLc (i := 6) (own := [("_law_images_so", 12)]) (g := gName 12) (tt := tYes) rfl scLaw.nd rfl rfl (sw_true rfl rfl rfl (by decide +kernel)) (pi_list (pv 5))
            (blkOk_by (N := nLaw) (sc := C8.fnScope sLaw) (by decide +kernel)) (fun _ _ _ _ _ => pg_name (i := 12) scLaw.nd rfl (Or.inl rfl)) (fun _ _ _ _ _ => pts_nil) (fun _ _ _ _ _ => C8.pe_mk mMis hr (by decide) (by rfl) (pa_cons (pv 12) pa_nil)))
        (pss_one (ps_for PassesOwn.never rfl (pi_range1 (by rfl) Tx.range (pa_cons pe_int pa_nil)) (pg_name (i := 4) scLaw.nd rfl (Or.inl rfl))
          (pss_cons (ps_set (i := 11) scLaw.nd rfl (Or.inr rfl) (C8.pe_c cGarb hr (by decide) (by rfl) (pa_cons (pv 1) (pa_cons (pv 5) (pa_cons (pv 3) pa_nil)))))
          (pss_cons (ps_set (i := 7) scLaw.nd rfl (Or.inl rfl) (C8.pe_c cOrig hr (by decide) (by rfl) (pa_cons (pv 5) (pa_cons (pv 11) pa_nil))))
          (pss_cons (ps_set (i := 7) scLaw.nd rfl (Or.inl rfl) (pe_ifExp (pt_cmpR op_notN (pv 7) pe_non (nomark _)) (pv 7) (pe_tup (pa_cons pe_str (pa_cons pe_str (pa_cons pe_int pa_nil))))))
          (pss_cons (ps_set (i := 10) scLaw.nd rfl (Or.inr rfl) (C8.pe_c cPick hr (by decide) (by rfl) (pa_cons (pv 1) (pa_cons (pe_lst (pa_cons (pv 6) (pa_cons (pe_tupleOf (by rfl) Tx.tuple (pv 6)) pa_nil))) pa_nil))))
          (pss_cons (ps_if (pt_cmpR (op_neD hr.units) (LamX.pe_lamcall (T := T) (TT := TTL CO CT) (c := c) (P := Pt) (k := 9) (Ng := nHeard) (by rfl) Fg.mgf Fg.kp lkg hcg bg scHeard rfl (Or.inl rfl) (heard_givesL hmR hmT Tx.isi ex1 ec k1 xf w1 w2 cl n1 n2) TB hcode hmTab hu0 (hr.mono (by decide)) (show LamX.LamS (C8.fnScope sLaw) _ from LamX.lamS_by (by decide +kernel)) (by rfl) (fun _ _ _ _ _ => rfl)
              (fun A2 o2 s2 H2 E2 f2 c2 hr2 => pe_lamL (CT := CT) (tg := tCallG (spOG CM CO CT T) [] (onlyC CT E2) (tCons (tVar 10) (tCons (tVar 11) tNil))) (pgen_call FO (hr2.mono (by decide)) (by rfl) mO kO bO .nil (pa_cons (pv 10) (pa_cons (pv 11) pa_nil))) hr2 (by rfl) Tx.list hns0 (by rfl))) (pv 7) (nomark _)) (pss_one (ps_ret pe_bl)) pss_nil)
          (pss_one (ps_if (PW.pt (pw_and (pt_cmpR op_eq (pv 4) pe_int (nomark _)) (pw_and1 (pt_cmpR (op_neD hr.units) (LamX.pe_lamcall (T := T) (TT := TTL CO CT) (c := c) (P := Pt) (k := 9) (Ng := nHeard) (by rfl) Fg.mgf Fg.kp lkg hcg bg scHeard rfl (Or.inl rfl) (heard_givesL hmR hmT Tx.isi ex1 ec k1 xf w1 w2 cl n1 n2) TB hcode hmTab hu0 (hr.mono (by decide)) (show LamX.LamS (C8.fnScope sLaw) _ from LamX.lamS_by (by decide +kernel)) (by rfl) (fun _ _ _ _ _ => rfl)
              (fun A2 o2 s2 H2 E2 f2 c2 hr2 => pe_lamL (CT := CT) (tg := tCallGK (spOG CM CO CT T) (fun vs zs => vs ++ zs.reverse) (onlyC CT E2) (tCons (tVar 11) (tCons (tVar 10) tNil))) (pgen_callK0 FO (hr2.mono (by decide)) (by rfl) mO kO kbO (pk_cons (pv 11) (pk_cons (pv 10) pk_nil))) hr2 (by rfl) Tx.list hns0 (by rfl))) (pv 7) (nomark _))))) (pss_one (ps_ret pe_bl)) pss_nil)))))))))))))
      (pss_cons (ps_par (i := 8) (j := 9) rfl scLaw.nd rfl rfl (by decide) rfl rfl (pa_cons (C8.pe_mk mOri hr (by decide) (by rfl) (pa_cons (pe_tup (pa_cons pe_int (pa_cons pe_int pa_nil))) (pa_cons pe_str pa_nil)))
          (pa_cons (pe_makeK0 (E := C8.E0) MO FI (hr.mono (by decide)) (by rfl) hmO kbI C8.pass0 (pk_cons pe_str (pk_cons (pe_tup (pa_cons pe_int (pa_cons pe_int pa_nil))) pk_nil))) pa_nil)) rfl)
      (pss_one (ps_ret (pe_and (pe_cmpR (op_eqO FE bE (hr.mono (by decide)) hsE hfE) (pv 8) (pv 9) (nomark _))
        (pe_and (pe_cmpR (op_neO FE bE (hr.mono (by decide)) (Nat.lt_of_le_of_lt (Nat.add_le_add_left (by decide) _) hr.units) hsE hfE hneE hobE) (pv 8) (C8.pe_mk mOri hr (by decide) (by rfl) (pa_cons (pe_tup (pa_cons pe_int pa_nil)) (pa_cons pe_str pa_nil))) (nomark _))
        (pe_and (pe_cmpR (op_neO FE bE (hr.mono (by decide)) (Nat.lt_of_le_of_lt (Nat.add_le_add_left (by decide) _) hr.units) hsE hfE hneE hobE) (pv 8) (C8.pe_mk mOri hr (by decide) (by rfl) (pa_cons (pe_tup (pa_cons pe_int (pa_cons pe_int pa_nil))) (pa_cons pe_str pa_nil))) (nomark _))
        (pe_one (pe_cmpR op_eq (pe_fldK (K' := K) (by rfl) (C8.pe_mk mOri hr (by decide) (by rfl) (pa_cons pe_int (pa_cons pe_non pa_nil)))) pe_int (nomark _)))))))))), ?_⟩
    refine ⟨_, rfl, a, ns, rfl, hns, fun H1 p l ms s1 hp0 P1 => ?_⟩
    refine ⟨3, rfl, by decide, by decide, ?_⟩
    refine for_n (n := 3) (fun i σ H' => ∃ (v2 v3 v4 v5 v6 v7 v10 v11 : Option V) (t g0 : Int), σ = [some (.ref a), some (.ref p), v2, v3, v4, v5, v6, v7, none, none, v10, v11, none] ∧ LamX.Tabs T H' ∧ Pen H' p l ms t g0 ∧ 0 ≤ t ∧ t ≤ 1000 * i)
      ⟨none, none, none, none, none, none, none, none, 0, 0, rfl, hT.ext s1, P1, by decide, by decide⟩ (fun i σ H' hi _ => hi) (fun σ H' _ => Nat.le_refl _) ?_ ?_
    · rintro i σ H2 hi ⟨v2, v3, v4, v5, v6, v7, v10, v11, t, g0, rfl, tb, P2, t0, t1⟩ x H3 ⟨rfl, rfl⟩
      refine ⟨_, rfl, p, l, ms, t, g0, 3, rfl, P2, t0, by omega, by decide, by decide, fun H4 d t4 g4 d0 d3 e1 e2 k4 hp4 => ⟨_, _, rfl, rfl, _, rfl, _, rfl, le_line (m := 4) (Nat.le_refl _), ?_⟩⟩
      have P4 := P2.keep k4 hp4
      have tb4 := tabs_keep tb P2.pen k4
      obtain ⟨z, hz, zne, zl, zasc, znd, zlow⟩ := cut_abcd d d0 d3
      rw [hz]
      refine ⟨_, rfl, p, l, ms, t4, g4, 4, rfl, P4, by omega, by omega, by decide, by decide, fun H5 d5 t5 g5 d50 d54 e51 e52 k5 hp5 => ⟨_, _, rfl, rfl, _, rfl, by omega, by omega, ?_⟩⟩
      have P5 := P4.keep k5 hp5
      have tb5 := tabs_keep tb4 P4.pen k5
      intro D hD
      have npD : p ≠ D := ne_of_none P5.pen hD
      refine lc_n (n := (1 + d5).toNat) (fun j H6 => ∃ (ds : List Addr) (mm : List Mis) (t6 g6 : Int), H6 D = some (.lst (ds.map V.ref)) ∧ ds.length = j ∧ Rules H6 z ds mm ∧ t5 ≤ t6 ∧ t6 ≤ t5 + 20 * j ∧ LamX.Tabs T H6 ∧ Pen H6 p l ms t6 g6)
        ⟨[], [], t5, g5, upd_same, rfl, ⟨.nil, fun m hm => (by cases hm), fun m hm => (by cases hm)⟩, Int.le_refl _, by omega, tb5.ext (Same.new hD), P5.keep (Keep.new hD) (by rw [upd_ne npD]; exact hp5)⟩ (fun j H6 hj _ => hj) (fun H6 _ => Nat.le_refl _) ?_ ?_
      · rintro j H6 hj ⟨ds, mm, t6, g6, hD6, dl, R6, b1, b2, tb6, P6⟩ x H7 ⟨rfl, rfl⟩
        refine ⟨rfl, ?_⟩
        refine ⟨_, rfl, _, rfl, p, l, ms, t6, g6, z, rfl, P6, by omega, by omega, znd, zl, fun H8 dd m t8 g8 sub him c1 c2 k8 hp8 nd8 hdd => ?_⟩
        have P8 := P6.keep k8 hp8
        have hD8 := k8 _ _ hD6 npD.symm
        have ddD : dd ≠ D := ne_of hdd hD8 (fun z => nomatch z)
        have tb8 := tabs_keep tb6 P6.pen k8
        have c3 : t8 ≤ t6 + 20 := by have : (z.length : Int) ≤ 4 := by omega
                                     omega
        refine ⟨_, hD8, by rw [List.length_map, dl]; exact lt_line (m := 100) (by omega), ds ++ [dd], mm ++ [m], t8, g8, ?_, by rw [List.length_append, dl]; rfl, ⟨?_, ?_, ?_⟩, by omega, by omega, tabs_keep tb8 hD8 Keep.put, ⟨?_, ?_⟩⟩
        · rw [upd_same]; simp
        · refine paired_append (Paired.mapP R6.dic fun d' m' e => ?_) (.cons ?_ .nil)
          · rw [upd_ne (ne_of e hD6 (fun z => nomatch z))]
            exact k8 _ _ e (P6.noD e)
          · rw [upd_ne ddD]; exact hdd
        · intro m' hm
          rcases List.mem_append.mp hm with hm | hm
          · exact R6.keys m' hm
          · rw [List.mem_singleton.mp hm]; exact sub
        · intro m' hm
          rcases List.mem_append.mp hm with hm | hm
          · exact R6.imgs m' hm
          · rw [List.mem_singleton.mp hm]; exact him
        · rw [upd_ne npD]; exact P8.pen
        · rw [upd_ne (ne_of_none P5.cells hD)]; exact P8.cells
      · rintro H6 ⟨ds, mm, t6, g6, hD6, dl, R6, b1, b2, tb6, P6⟩
        have dl4 : ds.length ≤ 4 := by omega
        have dl1 : 1 ≤ ds.length := by omega
        have b3 : t6 ≤ t + 82 := by omega
        refine ⟨_, rfl, D, rfl, ⟨_, SqL.of hD6⟩, fun Lo hLo => ?_⟩
        have ml : ds.length = mm.length := paired_len R6.dic
        have GR := R6.good zasc zl zlow
        refine lc_n (n := mm.length) (fun j H7 => ∃ os : List Addr, Same H6 H7 ∧ H7 Lo = some (.lst (os.map V.ref)) ∧ Paired (MisAt H7 CM) os (mm.take j)) ⟨[], Same.new hLo, upd_same, .nil⟩ (fun j H7 hj ⟨_, s7, _⟩ => ?_) (fun H7 ⟨_, s7, _⟩ => ⟨_, SqL.of (s7 _ _ hD6), by rw [List.length_map, ml]; exact Nat.le_refl _⟩) ?_ ?_
        · have hj3 : j < ds.length := by rw [ml]; exact hj
          exact ⟨_, .ref ds[j], SqL.of (s7 _ _ hD6), by simp [hj3]⟩
        · rintro j H7 hj ⟨os, s7, hL7, pr⟩ x H8 ⟨rfl, hx⟩
          have hx := hx _ (SqL.of (s7 _ _ hD6))
          obtain ⟨m, hm⟩ : ∃ m, m = mm[j] := ⟨_, rfl⟩
          have hmj : mm[j]? = some m := by rw [List.getElem?_eq_getElem hj, hm]
          obtain ⟨dd, hdj, hdd⟩ := paired_get R6.dic hmj
          have ex : x = .ref dd := by
            have : (ds.map V.ref)[j]? = some (.ref dd) := by rw [List.getElem?_map, hdj]; rfl
            exact Option.some.inj (hx.symm.trans this)
          subst ex
          have hmm : m ∈ mm := List.mem_of_getElem? hmj
          refine ⟨rfl, _, rfl, fun o dx ho hdx ndx => ?_⟩
          have hd8 := s7 _ _ hdd
          refine ⟨o, dx, dd, m, rfl, upd_same, by rw [upd_ne (ne_of_none hd8 ho), upd_ne (ne_of_none hd8 hdx)]; exact hd8, (GR m hmm).1, fun H9 k9 mis => ⟨rfl, ?_⟩⟩
          have s89 : Same H8 H9 := fun b u e => by
            refine k9 b u ?_ (ne_of_none e ho)
            rw [upd_ne (ne_of_none e ho), upd_ne (ne_of_none e hdx)]; exact e
          have hL9 := s89 _ _ hL7
          refine ⟨_, hL9, ?_, os ++ [o], ?_, ?_, ?_⟩
          · rw [List.length_map, paired_len pr, List.length_take]; exact lt_line (m := 100) (by omega)
          · intro b u e
            rw [upd_ne (ne_of_none e hLo)]
            exact s89 _ _ (s7 _ _ e)
          · rw [upd_same]; simp
          · rw [List.take_add_one, hmj]
            exact paired_append (Paired.mapP pr fun o' m' h => mis_keep (h.same s89) hL9 Keep.put) (.cons (mis_keep mis hL9 Keep.put) .nil)
        · rintro H7 ⟨os, s7, hL7, pr⟩
          rw [List.take_length] at pr
          have S7 : Sit CM T H7 p l D Lo ms z ds os mm t6 g6 := ⟨tb6.ext s7, ⟨s7 _ _ P6.pen, s7 _ _ P6.cells⟩, s7 _ _ hD6, R6.keep (p := p) fun d' kvs e => s7 _ _ e, hL7, pr⟩
          have ol : os.length = mm.length := paired_len pr
          refine ⟨2, rfl, by decide, by decide, ?_⟩
          refine for_n (n := 2) (fun j σ H' => ∃ (v4 v7 v10 v11 : Option V) (t8 g8 : Int), σ = [some (.ref a), some (.ref p), some (.int (0 + (i : Int))), some (.str (SX.S z)), v4, some (.ref D), some (.ref Lo), v7, none, none, v10, v11, none] ∧ Sit CM T H' p l D Lo ms z ds os mm t8 g8 ∧ t6 ≤ t8 ∧ t8 ≤ t6 + 100 * j)
            ⟨v4, v7, v10, v11, t6, g6, rfl, S7, Int.le_refl _, by omega⟩ (fun j σ H' hj _ => hj) (fun σ H' _ => Nat.le_refl _) ?_ ?_
          · rintro j σ H8 hj ⟨v4, v7, v10, v11, t8, g8, rfl, S8, b4, b5⟩ x H9 ⟨rfl, rfl⟩
            have dsne : ds ≠ [] := fun e => by rw [e] at dl1; exact absurd dl1 (by decide)
            refine ⟨_, rfl, _, rfl, _, rfl, p, l, D, ms, t8, g8, z, ds, mm, rfl, S8.pen, by omega, by omega, zne, znd, by omega, S8.rl, dsne, dl4, S8.rules, fun H10 u t10 g10 ul uz d1 d2 k10 hp10 => ?_⟩
            have S10 := S8.keep k10 hp10
            refine ⟨_, rfl, _, rfl, ?_⟩
            dsimp only [tNil]
            refine lorigins_one S10.rl S10.rules zasc zl zlow dl4 ul uz fun H11 v s11 due => ?_
            have S11 := S10.same s11
            refine due_one rfl due fun v' H12 s12 due2 => ?_
            have S12 := S11.same s12
            refine ⟨_, rfl, _, rfl, _, rfl, .inl ⟨Lo, _, rfl, SqL.of S12.lo, fun q hq => ⟨le_line (m := 2) (Nat.le_refl _), fun y hy => ?_⟩⟩⟩
            have s13 : Same H12 (upd (upd H12 q (.tup (os.map V.ref))) y (.lst [.ref Lo, .ref q])) := fun b u e => Same.new hy _ _ (Same.new hq _ _ e)
            have S13 := S12.same s13
            have yp : y ≠ p := (ne_of_none (Same.new hq _ _ S12.pen.pen) hy).symm
            refine ⟨p, l, ms, t10, g10, .ref y, [.ref Lo, .ref q], rfl, S13.pen, by omega, by omega, .inl ⟨y, rfl, upd_same, yp⟩, by simp, (by show 2 ≤ 1000; decide), fun H14 w' t14 g14 hw f1 f2 k14 hp14 => ?_⟩
            have S14 := S13.keep k14 hp14
            have due14 := (due2.ext (LamX.ExtN.of s13)).keep S13.pen k14
            have hq14 : H14 q = some (.tup (os.map V.ref)) := by
              have e : upd (upd H12 q (.tup (os.map V.ref))) y (.lst [.ref Lo, .ref q]) q = some (.tup (os.map V.ref)) := Same.new hy _ _ upd_same
              exact k14 _ _ e (ne_of e S13.pen.pen (fun z => nomatch z))
            obtain ⟨lt, b, rfl, hlot⟩ : ∃ lt b, w' = .ref lt ∧ LotAt H14 lt (os.map V.ref) b := by
              rcases List.mem_cons.mp hw with e | hw
              · exact ⟨Lo, true, e, .inl ⟨rfl, S14.lo⟩⟩
              · exact ⟨q, false, List.mem_singleton.mp hw, .inr ⟨rfl, hq14⟩⟩
            have lot14 : Lot H14 CM os mm := ⟨S14.mis, fun m hm => (GR m hm).2.1, fun m hm => (GR m hm).2.2.1, fun m hm => (GR m hm).2.2.2, fun m hm q hq => (GR m hm).1.keys q hq, by omega⟩
            have uw : ∀ c ∈ u, Low c := fun c hc => zlow _ (uz c hc)
            refine heard_read rfl (fun E2 H0 cont h => ⟨_, rfl, _, rfl, h⟩) S14.tab hlot lot14 (by omega) (by omega) ul uw due14 fun H15 e15 tb15 => ⟨_, rfl, iteF ?_⟩
            have S15 := S14.ext e15 tb15
            have lx : LotAt H15 lt (os.map V.ref) b := by
              rcases hlot with ⟨b1, h1⟩ | ⟨b1, h1⟩
              · exact .inl ⟨b1, e15 _ _ h1 (fun ps z => nomatch z)⟩
              · exact .inr ⟨b1, e15 _ _ h1 (fun ps z => nomatch z)⟩
            have lot15 : Lot H15 CM os mm := ⟨S15.mis, lot14.good, lot14.len, lot14.imgs, lot14.keys, lot14.few⟩
            refine ⟨_, rfl, rfl, _, rfl, ite2 (fun _ => ?_) (fun _ => ?_)⟩
            · refine heard_read rfl (fun E2 H0 cont h => ⟨_, rfl, _, rfl, h⟩) S15.tab lx lot15 (by omega) (by omega) ul uw (due14.ext e15) fun H16 e16 tb16 => ⟨_, rfl, iteF ?_⟩
              exact ⟨_, _, _, _, t14, g14, rfl, S15.ext e16 tb16, by omega, by omega⟩
            · refine iteF ?_
              exact ⟨_, _, _, _, t14, g14, rfl, S15, by omega, by omega⟩
          · rintro σ H8 ⟨v4, v7, v10, v11, t8, g8, rfl, S8, b4, b5⟩
            exact ⟨_, _, _, _, _, _, _, _, t8, g8, rfl, S8.tab, S8.pen, by omega, by omega⟩
    · rintro σ H3 ⟨v2, v3, v4, v5, v6, v7, v10, v11, t, g0, rfl, tb, P3, t0, t1⟩
      refine ⟨le_line (m := 2) (Nat.le_refl _), fun q1 hq1 => fun o1 x1 ho1 hx1 nd1 => ⟨o1, x1, .ref q1, .str "ab", rfl, upd_same, fun H4 k4 h4 => ⟨rfl, ?_⟩⟩⟩
      refine ⟨le_line (m := 2) (Nat.le_refl _), fun q2 hq2 => ⟨rfl, rfl, fun o2 x2 ho2 hx2 nd2 => ⟨o2, x2, .ref q2, .str "ab", rfl, upd_same, fun H5 k5 h5 => ⟨rfl, ?_⟩⟩⟩⟩
      refine ⟨_, _, rfl, ?_⟩
      have s34 : Same (upd H3 q1 (.tup [.int 0, .int 1])) H4 := fun b u e => by
        refine k4 b u ?_ (ne_of_none e ho1)
        rw [upd_ne (ne_of_none e ho1), upd_ne (ne_of_none e hx1)]; exact e
      have s45 : Same H4 H5 := fun b u e => by
        have n2 : b ≠ q2 := ne_of_none e hq2
        have e' : upd H4 q2 (.tup [.int 0, .int 1]) b = some u := by rw [upd_ne n2]; exact e
        refine k5 b u ?_ (ne_of_none e' ho2)
        rw [upd_ne (ne_of_none e' ho2), upd_ne (ne_of_none e' hx2)]; exact e'
      have hq1' : H5 q1 = some (.tup [.int 0, .int 1]) := s45 _ _ (s34 _ _ upd_same)
      have hq2' : H5 q2 = some (.tup [.int 0, .int 1]) := by
        have e' : upd H4 q2 (.tup [.int 0, .int 1]) q2 = some (.tup [.int 0, .int 1]) := upd_same
        refine k5 q2 _ ?_ (ne_of_none e' ho2)
        rw [upd_ne (ne_of_none e' ho2), upd_ne (ne_of_none e' hx2)]; exact e'
      have hO1 := s45 _ _ h4
      have dp : ∀ {Hx : Hp} {b : Addr} {is : List Int}, Hx b = some (.tup (is.map V.int)) → Dp K Hx (.ref b) (.tuple (is.map PyData.int)) := fun e => .tup (SqT.of e) (dp_ints _)
      refine ⟨_, rfl, _, rfl, o1, o2, x1, x2, _, _, true, rfl, rfl, hO1, h5, ⟨x1, x2, .ref q1, .ref q2, "ab", "ab", .tuple ([0, 1].map PyData.int), .tuple ([0, 1].map PyData.int), hO1, h5, dp (is := [0, 1]) hq1', dp (is := [0, 1]) hq2', by decide +kernel, by decide +kernel, by decide +kernel⟩, fun H6 e6 => ⟨_, rfl, iteT ?_⟩⟩
      have mk1 : ∀ {Ha Hb : Hp} {q o x : Addr} {u v w : HO}, Ha q = none → upd Ha q u o = none → upd Ha q u x = none → Keep o (upd (upd (upd Ha q u) x v) o w) Hb → Same (upd Ha q u) Hb := fun hq ho hx kk b u' e => by
        refine kk b u' ?_ (ne_of_none e ho)
        rw [upd_ne (ne_of_none e ho), upd_ne (ne_of_none e hx)]; exact e
      have one6 := e6 _ _ hO1
      have row6 := e6 _ _ hq1'
      refine ⟨_, rfl, le_line (m := 1) (Nat.le_refl _), fun q3 hq3 => fun o3 x3 ho3 hx3 nd3 => ⟨o3, x3, .ref q3, .str "ab", rfl, upd_same, fun H7 k7 h7 => ⟨rfl, ?_⟩⟩⟩
      have s67 := mk1 hq3 ho3 hx3 k7
      have s67' : Same H6 H7 := fun b u e => s67 _ _ (Same.new hq3 b u e)
      have one7 := s67' _ _ one6
      have row7 := s67' _ _ row6
      refine ⟨o1, o3, x1, x3, _, _, false, rfl, rfl, one7, h7, ⟨x1, x3, .ref q1, .ref q3, "ab", "ab", .tuple ([0, 1].map PyData.int), .tuple ([0].map PyData.int), one7, h7, dp (is := [0, 1]) row7, dp (is := [0]) (s67 _ _ upd_same), by decide +kernel, by decide +kernel, by decide +kernel⟩, fun H8 e8 => ⟨_, rfl, iteT ?_⟩⟩
      have one8 := e8 _ _ one7
      have row8 := e8 _ _ row7
      refine ⟨_, rfl, le_line (m := 2) (Nat.le_refl _), fun q4 hq4 => fun o4 x4 ho4 hx4 nd4 => ⟨o4, x4, .ref q4, .str "a", rfl, upd_same, fun H9 k9 h9 => ⟨rfl, ?_⟩⟩⟩
      have s89 := mk1 hq4 ho4 hx4 k9
      have s89' : Same H8 H9 := fun b u e => s89 _ _ (Same.new hq4 b u e)
      have one9 := s89' _ _ one8
      have row9 := s89' _ _ row8
      refine ⟨o1, o4, x1, x4, _, _, false, rfl, rfl, one9, h9, ⟨x1, x4, .ref q1, .ref q4, "ab", "a", .tuple ([0, 1].map PyData.int), .tuple ([0, 1].map PyData.int), one9, h9, dp (is := [0, 1]) row9, dp (is := [0, 1]) (s89 _ _ upd_same), by decide +kernel, by decide +kernel, by decide +kernel⟩, fun H10 e10 => ⟨_, rfl, iteT ?_⟩⟩
      refine fun o5 x5 ho5 hx5 nd5 => ⟨o5, x5, .int 7, .non, rfl, upd_same, fun H11 k11 h11 => ⟨rfl, o5, CO, x5, _, _, rfl, h11, cl, n1, rfl, ?_⟩⟩
      exact ⟨rfl, k _⟩
end
end K57
end part_K57QN
section part_K57EA
set_option Elab.async false
set_option linter.all false
set_option maxRecDepth 100000
set_option maxHeartbeats 4000000
/-! the end: what the top has left, gathered -/
namespace K57
open PySem L2 Org PySem.W
/-- a def under the name n -/
def DFa (K : Frag) (n x : Str) (st : Stmt) : Prop := ∃ (f : Addr) (oc : Value) (od : Option Addr) (kV doc pm : Value) (an : Option Addr) (cdv ct : Value) (osl : Array (Option Value)),
  nsIn K mainGlobals n = some (some (.ref f)) ∧ K.lookup f = some ⟨oc, od, .func (fnOf x x (C8.fnArgs st) (C8.fnBody st) (C8.fnScope st) .none kV doc pm an cdv ct), osl⟩ ∧ codeIn K cdv x = true ∧ keepIn K (.ref f) = true
theorem dfa_mk {K : Frag} {n x : Str} {st : Stmt} {f : Addr} {oc : Value} {od : Option Addr} {kV doc pm : Value} {an : Option Addr} {cdv ct : Value} {osl : Array (Option Value)} (a : nsIn K mainGlobals n = some (some (.ref f)))
    (l : K.lookup f = some ⟨oc, od, .func (fnOf x x (C8.fnArgs st) (C8.fnBody st) (C8.fnScope st) .none kV doc pm an cdv ct), osl⟩) (c : codeIn K cdv x = true) (k : keepIn K (.ref f) = true) : DFa K n x st := ⟨_, _, _, _, _, _, _, _, _, _, a, l, c, k⟩
/-- a method -/
def MFa (K : Frag) (C : Addr) (m qual : Str) (st : Stmt) (dvs : List V) (f : Addr) (fd : FuncData) : Prop := findIn K (.ref C) m = some (some (.ref f)) ∧ C8.Fun K m qual st f fd ∧ isFn K (.ref f) = true ∧ DflV K fd.defaults dvs
theorem mfa_mk {K : Frag} {C : Addr} {m qual : Str} {st : Stmt} {f : Addr} {oc : Value} {od : Option Addr} {kV doc pm : Value} {an : Option Addr} {cdv ct : Value} {osl : Array (Option Value)} (a : findIn K (.ref C) m = some (some (.ref f)))
    (l : K.lookup f = some ⟨oc, od, .func (fnOf m qual (C8.fnArgs st) (C8.fnBody st) (C8.fnScope st) .none kV doc pm an cdv ct), osl⟩) (c : codeIn K cdv qual = true) (i : isFn K (.ref f) = true) : ∃ f fd, MFa K C m qual st [] f fd :=
  ⟨f, _, a, ⟨⟨oc, od, .none, kV, doc, pm, an, cdv, ct, osl, rfl, l, c⟩⟩, i, .inl ⟨rfl, rfl⟩⟩
theorem mfa_mk1 {K : Frag} {C T : Addr} {m qual : Str} {st : Stmt} {f : Addr} {oc : Value} {od : Option Addr} {kV doc pm : Value} {an : Option Addr} {cdv ct : Value} {osl : Array (Option Value)} {z : Str} {tz : Tok} {c1 : Value} {d1 : Option Addr} {n1 : Nat} {sl1 : Array (Option Value)} (a : findIn K (.ref C) m = some (some (.ref f)))
    (l : K.lookup f = some ⟨oc, od, .func (fnOf m qual (C8.fnArgs st) (C8.fnBody st) (C8.fnScope st) (.ref T) kV doc pm an cdv ct), osl⟩) (c : codeIn K cdv qual = true) (i : isFn K (.ref f) = true) (t : K.lookup T = some ⟨c1, d1, .seq #[.str z tz] n1, sl1⟩) : ∃ f fd, MFa K C m qual st [.str z] f fd :=
  ⟨f, _, a, ⟨⟨oc, od, .ref T, kV, doc, pm, an, cdv, ct, osl, rfl, l, c⟩⟩, i, .inr ⟨by simp, T, _, [.str z tz], n1, rfl, t, rfl, .cons ⟨tz, rfl⟩ .nil⟩⟩
/-- a plain class -/
structure CFa (K : Frag) (C : Addr) : Prop where
  mks : makesIn K C = true
  kc : keepIn K (.ref C) = true
  pg : plainGet K C Str.empty = true
  hd : hasDictIn K C = true
  po : plainOver K C = true
  sa : findIn K (.ref C) "__setattr__" = some (some (.builtin "object.__setattr__"))
  ha : findIn K (.ref C) "__class__" = some (some (.builtin "object.__class__"))
  hn : specialIn K (.builtin "object.__class__") "__get__" = some (some (.builtin "getset_descriptor.__get__"))
  ht : takesIn K (.builtin "object.__class__") = some true
  hm : mroIn K C (.type "object") = some true
theorem kit_self {K : Frag} (C : Addr) : kitOne K (.ref C) (.ref C) = some true := by
  unfold kitOne
  rw [if_pos (by simp)]
theorem CFa.cls {K : Frag} {C : Addr} (c : CFa K C) : Cls K C := ⟨c.pg, c.hd, c.po, c.sa⟩
theorem CFa.insC {K : Frag} {C : Addr} (c : CFa K C) : C8.InsC K C := ⟨c.cls, c.ha, c.hn, c.ht, c.hm, kit_self C⟩
theorem exm_of {K : Frag} {t : Value} {D : Addr} (e : subIn K (.ref D) (.type "BaseException") = some true) (i : isClsIn K D = true) (y : typeIn K (.ref D) = some (.type "type")) (s : subIn K t (.ref D) = some true) : exmOne K t (.ref D) = some true := by
  unfold exmOne
  rw [if_pos (by rw [e]; rfl)]
  unfold isClsIn at i
  show (if ((clsIn K D).isSome && typeIn K (Value.ref D) == some (Value.type "type")) = true then subIn K t (Value.ref D) else none) = some true
  rw [if_pos (by rw [i, y]; decide +kernel)]
  exact s
section
variable {K : Frag} {h : Heap} {mg : Str → Option Value}
theorem DFa.of (X : K.In h) (G : h.Ns mainGlobals mg) {n x : Str} {st : Stmt} (d : DFa K n x st) : ∃ f fd, C8.Fun K x x st f fd ∧ mg n = some (.ref f) ∧ keepIn K (.ref f) = true ∧ fd.defaults = .none := by
  obtain ⟨f, oc, od, kV, doc, pm, an, cdv, ct, osl, a, l, c, k⟩ := d
  exact ⟨f, _, ⟨⟨oc, od, .none, kV, doc, pm, an, cdv, ct, osl, rfl, l, c⟩⟩, mg_of X G a, k, rfl⟩
theorem DFa.def (X : K.In h) (G : h.Ns mainGlobals mg) {x : Str} {st : Stmt} (d : DFa K x x st) : ∃ f fd, C8.Def K mg x st f fd ∧ fd.defaults = .none := by
  obtain ⟨f, fd, F, m, k, e⟩ := d.of X G
  exact ⟨f, fd, ⟨F, m, k⟩, e⟩
end
theorem kb_orig {K : Frag} {x : Str} {f : Addr} {fd : FuncData} (F : C8.Fun K "origins" "origins" sOrigins f fd) (df : fd.defaults = .none) : KBinds K fd ["misreadings", "text"] ["text", "misreadings"] (fun us ws => us ++ ws.reverse) (fun vs zs => vs ++ zs.reverse) := by
  obtain ⟨oc, od, dV, kV, doc, pm, an, cdv, ct, osl, rfl, lk, hcd⟩ := F.ex
  have e : dV = .none := df
  subst e
  refine ⟨fun s us ws _ hl => ?_, fun r1 r2 => vapp r1 (vrev r2)⟩
  have hl' : us.length + ws.length = 2 := by
    have : (us ++ ws.reverse).length = 2 := hl
    rw [List.length_append, List.length_reverse] at this
    exact this
  rcases us with _ | ⟨m, _ | ⟨m2, us⟩⟩
  · rcases ws with _ | ⟨a, _ | ⟨b, _ | ⟨c, r⟩⟩⟩
    · simp at hl'
    · simp at hl'
    · exact BindsTo.of_looks fun M => .of_pure rfl
    · simp at hl'
  · rcases ws with _ | ⟨a, _ | ⟨b, r⟩⟩
    · simp at hl'
    · exact BindsTo.of_looks fun M => .of_pure rfl
    · simp at hl'; omega
  · rcases us with _ | ⟨c, us⟩
    · rcases ws with _ | ⟨a, r⟩
      · exact BindsTo.of_looks fun M => .of_pure rfl
      · simp at hl'
    · simp at hl'; omega
end K57
end part_K57EA
section part_K57EB
set_option Elab.async false
set_option linter.all false
set_option maxRecDepth 100000
set_option maxHeartbeats 4000000
/-! the end: the law's promise out of the facts -/
namespace K57
open PySem L2 Org PySem.W
/-- the built-ins are themselves, the constants stand -/
structure ZFa (K : Frag) : Prop where
  isi : nsIn K mainGlobals "isinstance" = some none
  len : nsIn K mainGlobals "len" = some none
  str : nsIn K mainGlobals "str" = some none
  int : nsIn K mainGlobals "int" = some none
  abs : nsIn K mainGlobals "abs" = some none
  range : nsIn K mainGlobals "range" = some none
  enum : nsIn K mainGlobals "enumerate" = some none
  list : nsIn K mainGlobals "list" = some none
  tuple : nsIn K mainGlobals "tuple" = some none
  sorted : nsIn K mainGlobals "sorted" = some none
  set : nsIn K mainGlobals "set" = some none
  dict : nsIn K mainGlobals "dict" = some none
  sup : nsIn K mainGlobals "super" = some none
/-- the constants -/
structure UFa (K : Frag) : Prop where
  letters : ∃ t, nsIn K mainGlobals "LETTERS" = some (some (.str "abcdefghijklmnopqrstuvwxyz" t))
  signs : ∃ t, nsIn K mainGlobals "MOST_SIGNS" = some (some (.int 2000 t))
  image : ∃ t, nsIn K mainGlobals "MOST_IMAGE" = some (some (.int 4 t))
  few : ∃ t, nsIn K mainGlobals "MOST_LETTERS" = some (some (.int 12 t))
  mist : ∃ t, nsIn K mainGlobals "MOST_MISREADINGS" = some (some (.int 4 t))
  texts : ∃ t, nsIn K mainGlobals "MOST_TEXTS" = some (some (.int 500 t))
theorem txt_of {K : Frag} {h : Heap} {mg : Str → Option Value} (X : K.In h) (G : h.Ns mainGlobals mg) (z : ZFa K) (u : UFa K) : Txt K mg where
  isi := mg_none_of X G z.isi
  len := mg_none_of X G z.len
  str := mg_none_of X G z.str
  int := mg_none_of X G z.int
  abs := mg_none_of X G z.abs
  range := mg_none_of X G z.range
  enum := mg_none_of X G z.enum
  list := mg_none_of X G z.list
  tuple := mg_none_of X G z.tuple
  sorted := mg_none_of X G z.sorted
  set := mg_none_of X G z.set
  dict := mg_none_of X G z.dict
  letters := let ⟨t, e⟩ := u.letters; ⟨_, mg_of X G e, t, rfl⟩
  signs := let ⟨t, e⟩ := u.signs; ⟨_, mg_of X G e, t, rfl⟩
  image := let ⟨t, e⟩ := u.image; ⟨_, mg_of X G e, t, rfl⟩
  few := let ⟨t, e⟩ := u.few; ⟨_, mg_of X G e, t, rfl⟩
  mist := let ⟨t, e⟩ := u.mist; ⟨_, mg_of X G e, t, rfl⟩
  texts := let ⟨t, e⟩ := u.texts; ⟨_, mg_of X G e, t, rfl⟩
/-- TooMany -/
structure TFa (K : Frag) (prog : Program) (C fI : Addr) : Prop where
  cls : ∃ nm q N bs bm sn sub ab col dd k0 k1 k2 k3 k5, K.lookup C = some (excClassObj nm q C N bs bm true sn sub ab col dd k0 k1 k2 k3 k5 "ValueError.__new__") ∧ PySem.HandSPX.refsVE bm = true
  sa : findIn K (.ref C) "__setattr__" = some (some (.builtin "object.__setattr__"))
  exC : subIn K (.ref C) (.type "BaseException") = some true
  tyC : typeIn K (.ref C) = some (.type "type")
  kC : keepIn K (.ref C) = true
  iC : findIn K (.ref C) "__init__" = some (some (.ref fI))
  tI : typeIn K (.ref fI) = some (.type "function")
  op : nsIn K cStatics "thirdparty.any" = some none
  sub : mroIn K C (.ref C) = some true
  subV : subIn K (.ref C) (.type "ValueError") = some true
  htop : (prog.main.scope.names.lookup ("super" : Str)).isSome = false
  w1 : findIn K (.ref C) "what" = some none
  w2 : findIn K (.ref C) "most" = some none
  ga : findIn K (.ref C) "__getattribute__" = some (some (.builtin "BaseException.__getattribute__"))
  gg : findIn K (.ref C) "__getattr__" = some none
  hd : hasDictIn K C = true
  ha : findIn K (.ref C) "__class__" = some (some (.builtin "object.__class__"))
  hn : specialIn K (.builtin "object.__class__") "__get__" = some (some (.builtin "getset_descriptor.__get__"))
  ht : takesIn K (.builtin "object.__class__") = some true
  hm : mroIn K C (.type "object") = some true
  ns : subIn K (.ref C) (.type "StopIteration") = some false
theorem law_at {l : OpenLaw} {w : World} {K : Frag} {h : Heap} {mg : Str → Option Value} {fa CM CO CT CR fT fL fN P1 P2 c1 c2 : Addr} (X : K.In h) (G : h.Ns mainGlobals mg) (hfa : mg "law" = some (.ref fa))
    (t1 : h.get? P1 = some { cls := .none, data := .fields #[] }) (t2 : h.get? P2 = some { cls := .none, data := .fields #[] }) (p1 : K.lookup P1 = none) (p2 : K.lookup P2 = none) (hc1 : codeHdIn K c1 P1 = true) (hc2 : codeHdIn K c2 P2 = true) (ne : P1 ≠ P2)
    {oc1 oc2 kV1 kV2 dc1 dc2 pm1 pm2 ct1 ct2 : Value} {od1 od2 an1 an2 : Option Addr} {sl1 sl2 : Array (Option Value)}
    (a1 : nsIn K mainGlobals "in_order_origins" = some (some (.ref fN))) (l1 : K.lookup fN = some ⟨oc1, od1, .func (fnOf "in_order" "in_order" (C8.fnArgs sInOrder) (C8.fnBody sInOrder) (C8.fnScope sInOrder) .none kV1 dc1 pm1 an1 (.ref c1) ct1), sl1⟩) (k1 : codeIn K (.ref c1) "in_order" = true) (kp1 : keepIn K (.ref fN) = true)
    (a2 : nsIn K mainGlobals "law" = some (some (.ref fL))) (l2 : K.lookup fL = some ⟨oc2, od2, .func (fnOf "law" "law" (C8.fnArgs sLaw) (C8.fnBody sLaw) (C8.fnScope sLaw) .none kV2 dc2 pm2 an2 (.ref c2) ct2), sl2⟩) (k2 : codeIn K (.ref c2) "law" = true)
    (z : ZFa K) (u : UFa K)
    (aM : nsIn K mainGlobals "Misreading" = some (some (.ref CM))) (aO : nsIn K mainGlobals "Origin" = some (some (.ref CO))) (aT : nsIn K mainGlobals "TooMany" = some (some (.ref CT))) (aR : nsIn K mainGlobals "RepairError" = some (some (.ref CR)))
    (cM : CFa K CM) (cO : CFa K CO) (m1 : NoAttr K CM "images") (m2 : NoAttr K CM "letters") (m3 : NoAttr K CM "reached") (m4 : NoAttr K CM "changed") (n1 : NoAttr K CO "row") (n2 : NoAttr K CO "text")
    (iM : ∃ f fd, MFa K CM "__init__" "Misreading.__init__" sMis [.str (SX.S [])] f fd) (iO : ∃ f fd, MFa K CO "__init__" "Origin.__init__" sOriI [] f fd) (eO : ∃ f fd, MFa K CO "__eq__" "Origin.__eq__" sOriE [] f fd)
    (hne : findIn K (.ref CO) "__ne__" = some (some (.builtin "object.__ne__"))) (hob : subIn K (.ref CO) (.type "object") = some true)
    (tc : TFa K l.prog CT fT) (exR : subIn K (.ref CR) (.type "BaseException") = some true) (isR : isClsIn K CR = true) (tyR : typeIn K (.ref CR) = some (.type "type")) (suR : subIn K (.ref CT) (.ref CR) = some true)
    (fnT : ∃ (cc cda : Addr) (oc : Value) (od : Option Addr) (doc pm ct : Value) (an : Option Addr) (osl : Array (Option Value)) (ccl : Value) (cdd : Option Addr) (vs : Array Value) (ccs : Array (Option Value)) (file : Str) (tf : Tok) (cl : Value) (cld : Option Addr) (csl : Array (Option Value)) (cd : ClassData),
      K.lookup fT = some ⟨oc, od, .func (fnX "__init__" "TooMany.__init__" (C8.fnArgs sTooI) (C8.fnBody sTooI) (C8.fnScope sTooI) [("__class__", cc)] .none .none doc pm an (.ref cda) ct), osl⟩ ∧ codeIn K (.ref cda) "TooMany.__init__" = true ∧
      K.lookup cda = some ⟨ccl, cdd, .fields vs, ccs⟩ ∧ vs[2]? = some (.str file tf) ∧ ((l.prog.main.file : Str) == file) = true ∧ K.lookup cc = some ⟨cl, cld, .cell (some (.ref CT)), csl⟩ ∧ clsIn K CT = some cd ∧
      alongIn K "__init__" ((cd.mro.dropWhile (· != .ref CT)).drop 1) = some (some (.builtin "ValueError.__init__")))
    (dIsL : DFa K "is_letter" "is_letter" sIsLetter) (dIsT : DFa K "is_text" "is_text" sIsText) (dIsI : DFa K "is_image" "is_image" sIsImage) (dNT : DFa K "need_text" "need_text" sNeedText) (dNF : DFa K "need_few" "need_few" sNeedFew)
    (dNI : DFa K "need_images" "need_images" sNeedImages) (dKe : DFa K "kept_images" "kept_images" sKept) (dMO : DFa K "in_order_misreadings" "in_order" sInOrderM) (dLe : DFa K "letters_in" "letters_in" sLettersIn) (dNM : DFa K "need_misreadings" "need_misreadings" sNeedMis)
    (dAh : DFa K "texts_ahead" "texts_ahead" sAhead) (dOO : DFa K "origins_of" "origins_of" sOriginsOf) (dOr : DFa K "origins" "origins" sOrigins) (dPe : DFa K "_law_pen" "_law_pen" sPen) (dDr : DFa K "_law_draw" "_law_draw" sDraw) (dPi : DFa K "_law_pick" "_law_pick" sPick)
    (dWo : DFa K "_law_word" "_law_word" sWord) (dIs : DFa K "_law_images" "_law_images" sImages) (dIm : DFa K "_law_image" "_law_image" sImage) (dSo : DFa K "_law_sources" "_law_sources" sSources) (dLO : DFa K "_law_origins" "_law_origins" sLOrigins)
    (dGa : DFa K "_law_garbled" "_law_garbled" sGarbled) (dHe : DFa K "_law_heard" "_law_heard" sHeard) : LamX.LawAtS l w K C8.CX0 20 63 "_law_script" mg fa h := by
  have e := hfa.symm.trans (mg_of X G a2)
  cases e
  have Tx := txt_of X G z u
  obtain ⟨fm, fdm, iM1, iM2, iM3, iM4⟩ := iM
  obtain ⟨fo, fdo, iO1, iO2, iO3, iO4⟩ := iO
  obtain ⟨fe, fde, eO1, eO2, eO3, eO4⟩ := eO
  have dfo : fdo.defaults = .none := by
    rcases iO4 with ⟨_, q⟩ | ⟨q, _⟩
    · exact q
    · exact absurd rfl q
  have dfe : fde.defaults = .none := by
    rcases eO4 with ⟨_, q⟩ | ⟨q, _⟩
    · exact q
    · exact absurd rfl q
  have gM := mg_of X G aM
  have gO := mg_of X G aO
  have gT := mg_of X G aT
  have gR := mg_of X G aR
  have TC : TooC l.prog K mg CT fT := { ox := ⟨tc.cls, tc.sa, tc.exC, tc.tyC, tc.kC⟩, iC := tc.iC, tI := tc.tI, gC := gT, sup := mg_none_of X G z.sup, op := tc.op, sub := tc.sub, subV := tc.subV, htop := tc.htop, w1 := tc.w1, w2 := tc.w2, fn := fnT }
  obtain ⟨f1, fd1, F1, e1⟩ := dIsL.def X G
  obtain ⟨f2, fd2, F2, e2⟩ := dIsT.def X G
  obtain ⟨f3, fd3, F3, e3⟩ := dIsI.def X G
  obtain ⟨f4, fd4, F4, e4⟩ := dNT.def X G
  obtain ⟨f5, fd5, F5, e5⟩ := dNF.def X G
  obtain ⟨f6, fd6, F6, e6⟩ := dNI.def X G
  obtain ⟨f7, fd7, F7, e7⟩ := dKe.def X G
  obtain ⟨f8, fd8, F8, g8, k8, e8⟩ := dMO.of X G
  obtain ⟨f9, fd9, F9, e9⟩ := dLe.def X G
  obtain ⟨f10, fd10, F10, e10⟩ := dNM.def X G
  obtain ⟨f11, fd11, F11, e11⟩ := dAh.def X G
  obtain ⟨f12, fd12, F12, e12⟩ := dOO.def X G
  obtain ⟨f13, fd13, F13, e13⟩ := dOr.def X G
  obtain ⟨f14, fd14, F14, e14⟩ := dPe.def X G
  obtain ⟨f15, fd15, F15, e15⟩ := dDr.def X G
  obtain ⟨f16, fd16, F16, e16⟩ := dPi.def X G
  obtain ⟨f17, fd17, F17, e17⟩ := dWo.def X G
  obtain ⟨f18, fd18, F18, e18⟩ := dIs.def X G
  obtain ⟨f19, fd19, F19, e19⟩ := dIm.def X G
  obtain ⟨f20, fd20, F20, e20⟩ := dSo.def X G
  obtain ⟨f21, fd21, F21, e21⟩ := dLO.def X G
  obtain ⟨f22, fd22, F22, e22⟩ := dGa.def X G
  obtain ⟨f23, fd23, F23, e23⟩ := dHe.def X G
  have FL : C8.Fun K "law" "law" sLaw fa _ := ⟨⟨_, _, _, _, _, _, _, _, _, _, rfl, l2, k2⟩⟩
  have FN : C8.Fun K "in_order" "in_order" sInOrder fN _ := ⟨⟨_, _, _, _, _, _, _, _, _, _, rfl, l1, k1⟩⟩
  have gN := mg_of X G a1
  let T : List (Addr × Str) := [(P1, "in_order.<locals>.<lambda>"), (P2, "law.<locals>.<lambda>")]
  refine ⟨fnOf "law" "law" (C8.fnArgs sLaw) (C8.fnBody sLaw) (C8.fnScope sLaw) .none kV2 dc2 pm2 an2 (.ref c2) ct2, [(c1, P1), (c2, P2)], spLaw (K := K) T, ?_, ?_, ?_, fun s v => .of_eq rfl, fun H a ns _ _ hH hS => ⟨a, ns, rfl, hS, ?_, fun _ => rfl⟩, fun base hK hB hT => ?_⟩
  · intro p hp
    rcases List.mem_cons.mp hp with q | hp
    · rw [q]; exact t1
    · rw [List.mem_singleton.mp hp]; exact t2
  · intro p hp
    rcases List.mem_cons.mp hp with q | hp
    · rw [q]; exact p1
    · rw [List.mem_singleton.mp hp]; exact p2
  · intro p hp
    rcases List.mem_cons.mp hp with q | hp
    · rw [q]; exact codeHd_of_K X hc1
    · rw [List.mem_singleton.mp hp]; exact codeHd_of_K X hc2
  · intro p hp
    rcases List.mem_cons.mp hp with q | hp
    · rw [q]; exact LamX.TabS.nil (hH (c1, P1) (by simp))
    · rw [List.mem_singleton.mp hp]; exact LamX.TabS.nil (hH (c2, P2) (by simp))
  · have B1 := hT (c1, P1) (by simp)
    have B2 := hT (c2, P2) (by simp)
    have TO1 : TabOf base mg (fnOf "in_order" "in_order" (C8.fnArgs sInOrder) (C8.fnBody sInOrder) (C8.fnScope sInOrder) .none kV1 dc1 pm1 an1 (.ref c1) ct1) "in_order.<locals>.<lambda>" T := ⟨c1, P1, rfl, B1, by simp [T], fun p hp q => by
      rcases List.mem_cons.mp hp with q' | hp
      · rw [q']
      · rw [List.mem_singleton.mp hp] at q; exact absurd q.symm ne⟩
    have TO2 : TabOf base mg (fnOf "law" "law" (C8.fnArgs sLaw) (C8.fnBody sLaw) (C8.fnScope sLaw) .none kV2 dc2 pm2 an2 (.ref c2) ct2) "law.<locals>.<lambda>" T := ⟨c2, P2, rfl, B2, by simp [T], fun p hp q => by
      rcases List.mem_cons.mp hp with q' | hp
      · rw [q'] at q; exact absurd q ne
      · rw [List.mem_singleton.mp hp]⟩
    have r1 := cal_is_letter (P := l.prog) (w := w) (base := base) F1 e1 Tx
    have r2 := cal_is_text (P := l.prog) (w := w) (base := base) F2 e2 Tx
    have r3 := cal_is_image F3 e3 Tx r2
    have r4 := cal_need_text F4 e4 Tx r2
    have r5 := cal_need_few (P := l.prog) (w := w) (base := base) F5 e5 Tx
    have r6 := cal_need_images F6 e6 Tx r1 r3
    have r7 := cal_kept (P := l.prog) (w := w) (base := base) F7 e7 Tx
    have r8 := cal_mord (P := l.prog) (w := w) (base := base) F8 g8 k8 e8 Tx
    have r9 := cal_letters (P := l.prog) (w := w) (base := base) F9 e9 Tx
    have r10 := cal_need_mis (P := l.prog) (w := w) (base := base) F10 e10 Tx gM cM.insC
    have hmt : ∃ k, mg "MOST_TEXTS" = some (.int 500 k) := let ⟨t, e⟩ := u.texts; ⟨t, mg_of X G e⟩
    have r11 := cal_ahead (P := l.prog) (w := w) (base := base) F11 e11 Tx cM.cls m1 hmt
    have rO := mak_ori (P := l.prog) (w := w) (base := base) ⟨cO.mks, iO1, iO3, cO.kc⟩ gO iO2 dfo cO.cls n1 n2
    have rM := mak_mis ⟨cM.mks, iM1, iM3, cM.kc⟩ gM iM2 iM4 Tx cM.cls m1 m2 m3 m4 r6 r2 r7 r5 r8 r9
    have r12 := fn_oo (w := w) F12 Tx r11 TC FN gN kp1 rfl TO1 rO
    have b12 := F12.fn.binds e12 (ps := ["misreadings", "text"]) fun _ _ _ _ _ _ us hl => match us, hl with | [_, _], _ => rfl
    have r13 := gfn_og F13 Tx r10 r4 r12 F12.mgf F12.kp b12
    have b13 := F13.fn.binds e13 (ps := ["misreadings", "text"]) fun _ _ _ _ _ _ us hl => match us, hl with | [_, _], _ => rfl
    have rE := fn_oeq (P := l.prog) (w := w) (base := base) eO2 Tx gO cO.insC cO.cls n1 n2
    have bE := eO2.binds dfe (ps := ["self", "other"]) fun _ _ _ _ _ _ us hl => match us, hl with | [_, _], _ => rfl
    have r14 := cal_pen (P := l.prog) (w := w) (base := base) F14 e14 Tx
    have r15 := cal_draw (P := l.prog) (w := w) (base := base) F15 e15 Tx
    have r16 := cal_pick F16 e16 Tx r15
    have r17 := cal_word F17 e17 Tx r15 r16
    have r18 := cal_images F18 e18 Tx r15 r17
    have r19 := cal_image (P := l.prog) (w := w) (base := base) F19 e19 Tx
    have r20 := cal_sources (P := l.prog) (w := w) (base := base) F20 e20 Tx
    have r21 := cal_lorigins F21 e21 Tx r20
    have r22 := cal_garbled F22 e22 Tx r15 r16 r17 r19
    exact fn_law (CR := CR) F23 e23 r13 F13.mgf F13.kp b13 gR gT (exm_of exR isR tyR suR) ⟨tc.ga, tc.gg, tc.exC, tc.hd, tc.ha, tc.hn, tc.ht, tc.hm⟩ (kit_self CT) ⟨tc.ga, tc.gg, tc.exC, tc.hd⟩ tc.w1 tc.w2 cO.cls n1 n2 (kb_orig (x := "origins") F13.fn e13) ⟨cO.mks, iO1, iO3, cO.kc⟩ gO
      (fn_ori iO2 cO.cls n1 n2) (kb_ori iO2 dfo) rE bE eO1 eO3 hne hob tc.ns TO2 FL Tx r14 r15 r16 r18 r22 r21 rM rO
end K57
end part_K57EB
section part_K57Head
set_option Elab.async false
open PySem PySem.W PyProof.Rows
set_option maxRecDepth 100000
set_option maxHeartbeats 0
open_top head for PySem.Challenge.rw_blindrepair_k57_whole_origins_by_steps
end part_K57Head
section part_K57EC
set_option Elab.async false
set_option linter.all false
set_option maxRecDepth 100000
set_option maxHeartbeats 4000000
namespace K57
open PySem L2 Org PySem.W
theorem tcls_mk {K : Frag} {C : Addr} {nm q : Str} {N : Addr} {bs bm : List Value} {sn : List Str} {sub : List Value} {ab : Bool} {col : Option Bool} {dd : Option Addr} {k0 k1 k2 k3 k5 : Option Value} (a : K.lookup C = some (excClassObj nm q C N bs bm true sn sub ab col dd k0 k1 k2 k3 k5 "ValueError.__new__")) (b : PySem.HandSPX.refsVE bm = true) :
    ∃ nm q N bs bm sn sub ab col dd k0 k1 k2 k3 k5, K.lookup C = some (excClassObj nm q C N bs bm true sn sub ab col dd k0 k1 k2 k3 k5 "ValueError.__new__") ∧ PySem.HandSPX.refsVE bm = true := ⟨_, _, _, _, _, _, _, _, _, _, _, _, _, _, _, a, b⟩
theorem ut_mk {K : Frag} {n s : Str} {t : Tok} (a : nsIn K mainGlobals n = some (some (.str s t))) : ∃ t, nsIn K mainGlobals n = some (some (.str s t)) := ⟨t, a⟩
theorem ui_mk {K : Frag} {n : Str} {i : Int} {t : Tok} (a : nsIn K mainGlobals n = some (some (.int i t))) : ∃ t, nsIn K mainGlobals n = some (some (.int i t)) := ⟨t, a⟩
theorem fnT_mk {K : Frag} {file0 : Str} {CT fT : Addr} {cc cda : Addr} {oc : Value} {od : Option Addr} {doc pm ct : Value} {an : Option Addr} {osl : Array (Option Value)} {ccl : Value} {cdd : Option Addr} {vs : Array Value} {ccs : Array (Option Value)} {file : Str} {tf : Tok} {cl : Value} {cld : Option Addr} {csl : Array (Option Value)} {cd : ClassData}
    (a : K.lookup fT = some ⟨oc, od, .func (fnX "__init__" "TooMany.__init__" (C8.fnArgs sTooI) (C8.fnBody sTooI) (C8.fnScope sTooI) [("__class__", cc)] .none .none doc pm an (.ref cda) ct), osl⟩) (b : codeIn K (.ref cda) "TooMany.__init__" = true) (c : K.lookup cda = some ⟨ccl, cdd, .fields vs, ccs⟩) (d : vs[2]? = some (.str file tf)) (e : ((file0 : Str) == file) = true)
    (f : K.lookup cc = some ⟨cl, cld, .cell (some (.ref CT)), csl⟩) (g : clsIn K CT = some cd) (i : alongIn K "__init__" ((cd.mro.dropWhile (· != .ref CT)).drop 1) = some (some (.builtin "ValueError.__init__"))) :
    ∃ (cc cda : Addr) (oc : Value) (od : Option Addr) (doc pm ct : Value) (an : Option Addr) (osl : Array (Option Value)) (ccl : Value) (cdd : Option Addr) (vs : Array Value) (ccs : Array (Option Value)) (file : Str) (tf : Tok) (cl : Value) (cld : Option Addr) (csl : Array (Option Value)) (cd : ClassData),
      K.lookup fT = some ⟨oc, od, .func (fnX "__init__" "TooMany.__init__" (C8.fnArgs sTooI) (C8.fnBody sTooI) (C8.fnScope sTooI) [("__class__", cc)] .none .none doc pm an (.ref cda) ct), osl⟩ ∧ codeIn K (.ref cda) "TooMany.__init__" = true ∧
      K.lookup cda = some ⟨ccl, cdd, .fields vs, ccs⟩ ∧ vs[2]? = some (.str file tf) ∧ ((file0 : Str) == file) = true ∧ K.lookup cc = some ⟨cl, cld, .cell (some (.ref CT)), csl⟩ ∧ clsIn K CT = some cd ∧
      alongIn K "__init__" ((cd.mro.dropWhile (· != .ref CT)).drop 1) = some (some (.builtin "ValueError.__init__")) := ⟨_, _, _, _, _, _, _, _, _, _, _, _, _, _, _, _, _, _, _, a, b, c, d, e, f, g, i⟩
end K57
open PySem PySem.W PyProof.Rows
set_option maxRecDepth 100000 in
set_option maxHeartbeats 0 in
theorem PySem.Challenge.cw_blindrepair_k57_whole_origins_by_steps_holds : PySem.Challenge.rw_blindrepair_k57_whole_origins_by_steps.Holds :=
  head (by
  k_fill
  refine LamX.walk_ofTs (l := PySem.Challenge.rw_blindrepair_k57_whole_origins_by_steps) (n := 63) (k := 20) (CX := fun _ => C8.CX0) (x := "_law_script") rfl (by decide) rfl ⟨rfl, by decide, by decide⟩ (fun w h Y => km_in_of Y) ?F (fun _ _ _ _ _ z => z)
  case F =>
    intro w mg fa h Y KX G hmg
    have tabs := km_tabs_of Y
    refine' K57.law_at (P1 := 553) (P2 := 630) KX G hmg (tabs 553 (by simp)) (tabs 630 (by simp)) ?p1 ?p2 ?hc1 ?hc2 (by decide) ?a1 ?l1 ?k1 ?kp1 ?a2 ?l2 ?k2 ?z ?u ?aM ?aO ?aT ?aR ?cM ?cO ?m1 ?m2 ?m3 ?m4 ?n1 ?n2 ?iM ?iO ?eO ?hne ?hob ?tc ?exR ?isR ?tyR ?suR ?fnT
      ?dIsL ?dIsT ?dIsI ?dNT ?dNF ?dNI ?dKe ?dMO ?dLe ?dNM ?dAh ?dOO ?dOr ?dPe ?dDr ?dPi ?dWo ?dIs ?dIm ?dSo ?dLO ?dGa ?dHe
    (case a1 => k_is); (case l1 => k_is); (case k1 => k_is); (case kp1 => k_is); (case a2 => k_is); (case l2 => k_is); (case k2 => k_is)
    (case p1 => kernel_rfl); (case p2 => kernel_rfl); (case hc1 => kernel_rfl); (case hc2 => kernel_rfl)
    (case z => (refine' K57.ZFa.mk ?x1isi ?x1len ?x1str ?x1int ?x1abs ?x1range ?x1enum ?x1list ?x1tuple ?x1sorted ?x1set ?x1dict ?x1sup; (case x1isi => k_is); (case x1len => k_is); (case x1str => k_is); (case x1int => k_is); (case x1abs => k_is); (case x1range => k_is); (case x1enum => k_is); (case x1list => k_is); (case x1tuple => k_is); (case x1sorted => k_is); (case x1set => k_is); (case x1dict => k_is); (case x1sup => k_is)))
    (case u => (refine' K57.UFa.mk (K57.ut_mk ?u1) (K57.ui_mk ?u2) (K57.ui_mk ?u3) (K57.ui_mk ?u4) (K57.ui_mk ?u5) (K57.ui_mk ?u6); (case u1 => k_is); (case u2 => k_is); (case u3 => k_is); (case u4 => k_is); (case u5 => k_is); (case u6 => k_is)))
    (case aM => k_is); (case aO => k_is); (case aT => k_is); (case aR => k_is)
    (case cM => (refine' K57.CFa.mk ?x2mks ?x2kc ?x2pg ?x2hd ?x2po ?x2sa ?x2ha ?x2hn ?x2ht ?x2hm; (case x2mks => k_is); (case x2kc => k_is); (case x2pg => k_is); (case x2hd => k_is); (case x2po => k_is); (case x2sa => k_is); (case x2ha => k_is); (case x2hn => k_is); (case x2ht => k_is); (case x2hm => k_is)))
    (case cO => (refine' K57.CFa.mk ?x3mks ?x3kc ?x3pg ?x3hd ?x3po ?x3sa ?x3ha ?x3hn ?x3ht ?x3hm; (case x3mks => k_is); (case x3kc => k_is); (case x3pg => k_is); (case x3hd => k_is); (case x3po => k_is); (case x3sa => k_is); (case x3ha => k_is); (case x3hn => k_is); (case x3ht => k_is); (case x3hm => k_is)))
    (case m1 => (unfold L2.NoAttr; k_is)); (case m2 => (unfold L2.NoAttr; k_is)); (case m3 => (unfold L2.NoAttr; k_is)); (case m4 => (unfold L2.NoAttr; k_is)); (case n1 => (unfold L2.NoAttr; k_is)); (case n2 => (unfold L2.NoAttr; k_is))
    (case iM => (refine' K57.mfa_mk1 ?x4a ?x4l ?x4c ?x4i ?x4t; (case x4a => k_is); (case x4l => k_is); (case x4c => k_is); (case x4i => k_is); (case x4t => k_is)))
    (case iO => (refine' K57.mfa_mk ?x5a ?x5l ?x5c ?x5i; (case x5a => k_is); (case x5l => k_is); (case x5c => k_is); (case x5i => k_is)))
    (case eO => (refine' K57.mfa_mk ?x6a ?x6l ?x6c ?x6i; (case x6a => k_is); (case x6l => k_is); (case x6c => k_is); (case x6i => k_is)))
    (case hne => k_is); (case hob => k_is)
    (case tc => (refine' K57.TFa.mk (K57.tcls_mk ?tcA ?tcB) ?tcsa ?tcexC ?tctyC ?tckC ?tciC ?tctI ?tcop ?tcsub ?tcsubV ?tchtop ?tcw1 ?tcw2 ?tcga ?tcgg ?tchd ?tcha ?tchn ?tcht ?tchm ?tcns; (case tcA => k_is); (case tcB => decide +kernel); (case tcsa => k_is); (case tcexC => k_is); (case tctyC => k_is); (case tckC => k_is); (case tciC => k_is); (case tctI => k_is); (case tcop => k_is); (case tcsub => k_is); (case tcsubV => k_is); (case tchtop => decide +kernel); (case tcw1 => k_is); (case tcw2 => k_is); (case tcga => k_is); (case tcgg => k_is); (case tchd => k_is); (case tcha => k_is); (case tchn => k_is); (case tcht => k_is); (case tchm => k_is); (case tcns => k_is)))
    (case exR => k_is); (case isR => k_is); (case tyR => k_is); (case suR => k_is)
    (case fnT => (refine' K57.fnT_mk (file0 := PySem.Challenge.rw_blindrepair_k57_whole_origins_by_steps.prog.main.file) ?x7a ?x7b ?x7c ?x7d ?x7e ?x7f ?x7g ?x7i; (case x7a => k_is); (case x7b => k_is); (case x7c => k_is); (case x7d => rfl); (case x7e => decide +kernel); (case x7f => k_is); (case x7g => k_is); (case x7i => kernel_rfl)))
    (case dIsL => (refine' K57.dfa_mk ?x8a ?x8l ?x8c ?x8k; (case x8a => k_is); (case x8l => k_is); (case x8c => k_is); (case x8k => k_is)))
    (case dIsT => (refine' K57.dfa_mk ?x9a ?x9l ?x9c ?x9k; (case x9a => k_is); (case x9l => k_is); (case x9c => k_is); (case x9k => k_is)))
    (case dIsI => (refine' K57.dfa_mk ?x10a ?x10l ?x10c ?x10k; (case x10a => k_is); (case x10l => k_is); (case x10c => k_is); (case x10k => k_is)))
    (case dNT => (refine' K57.dfa_mk ?x11a ?x11l ?x11c ?x11k; (case x11a => k_is); (case x11l => k_is); (case x11c => k_is); (case x11k => k_is)))
    (case dNF => (refine' K57.dfa_mk ?x12a ?x12l ?x12c ?x12k; (case x12a => k_is); (case x12l => k_is); (case x12c => k_is); (case x12k => k_is)))
    (case dNI => (refine' K57.dfa_mk ?x13a ?x13l ?x13c ?x13k; (case x13a => k_is); (case x13l => k_is); (case x13c => k_is); (case x13k => k_is)))
    (case dKe => (refine' K57.dfa_mk ?x14a ?x14l ?x14c ?x14k; (case x14a => k_is); (case x14l => k_is); (case x14c => k_is); (case x14k => k_is)))
    (case dMO => (refine' K57.dfa_mk ?x15a ?x15l ?x15c ?x15k; (case x15a => k_is); (case x15l => k_is); (case x15c => k_is); (case x15k => k_is)))
    (case dLe => (refine' K57.dfa_mk ?x16a ?x16l ?x16c ?x16k; (case x16a => k_is); (case x16l => k_is); (case x16c => k_is); (case x16k => k_is)))
    (case dNM => (refine' K57.dfa_mk ?x17a ?x17l ?x17c ?x17k; (case x17a => k_is); (case x17l => k_is); (case x17c => k_is); (case x17k => k_is)))
    (case dAh => (refine' K57.dfa_mk ?x18a ?x18l ?x18c ?x18k; (case x18a => k_is); (case x18l => k_is); (case x18c => k_is); (case x18k => k_is)))
    (case dOO => (refine' K57.dfa_mk ?x19a ?x19l ?x19c ?x19k; (case x19a => k_is); (case x19l => k_is); (case x19c => k_is); (case x19k => k_is)))
    (case dOr => (refine' K57.dfa_mk ?x20a ?x20l ?x20c ?x20k; (case x20a => k_is); (case x20l => k_is); (case x20c => k_is); (case x20k => k_is)))
    (case dPe => (refine' K57.dfa_mk ?x21a ?x21l ?x21c ?x21k; (case x21a => k_is); (case x21l => k_is); (case x21c => k_is); (case x21k => k_is)))
    (case dDr => (refine' K57.dfa_mk ?x22a ?x22l ?x22c ?x22k; (case x22a => k_is); (case x22l => k_is); (case x22c => k_is); (case x22k => k_is)))
    (case dPi => (refine' K57.dfa_mk ?x23a ?x23l ?x23c ?x23k; (case x23a => k_is); (case x23l => k_is); (case x23c => k_is); (case x23k => k_is)))
    (case dWo => (refine' K57.dfa_mk ?x24a ?x24l ?x24c ?x24k; (case x24a => k_is); (case x24l => k_is); (case x24c => k_is); (case x24k => k_is)))
    (case dIs => (refine' K57.dfa_mk ?x25a ?x25l ?x25c ?x25k; (case x25a => k_is); (case x25l => k_is); (case x25c => k_is); (case x25k => k_is)))
    (case dIm => (refine' K57.dfa_mk ?x26a ?x26l ?x26c ?x26k; (case x26a => k_is); (case x26l => k_is); (case x26c => k_is); (case x26k => k_is)))
    (case dSo => (refine' K57.dfa_mk ?x27a ?x27l ?x27c ?x27k; (case x27a => k_is); (case x27l => k_is); (case x27c => k_is); (case x27k => k_is)))
    (case dLO => (refine' K57.dfa_mk ?x28a ?x28l ?x28c ?x28k; (case x28a => k_is); (case x28l => k_is); (case x28c => k_is); (case x28k => k_is)))
    (case dGa => (refine' K57.dfa_mk ?x29a ?x29l ?x29c ?x29k; (case x29a => k_is); (case x29l => k_is); (case x29c => k_is); (case x29k => k_is)))
    (case dHe => (refine' K57.dfa_mk ?x30a ?x30l ?x30c ?x30k; (case x30a => k_is); (case x30l => k_is); (case x30c => k_is); (case x30k => k_is))))
end part_K57EC
